import PyProof.Rows.All
import Wide.All
import OpenK.AllK
import Wide.FinOn
import KE.KDictKeyed
import HandS.Base
import HandS.Call
import HandS.List
import HandS.Words
import HandS.Exc
import HandS.TupSets
import HandS.TupAny
import HandS.TupMul
import HandS.Style
import HandS.More
import HandS.IsInst
import HandS.Flow
import HandS.Wide
import PyProof.Rows.InDataRows
import PyProof.ReprRoads
import PyProof.StrLawsRepr
import HandS.RaiseMore
import HandS.Comp
import HandS.Iter
import HandS.Zip
import KE.GoesEnum
import KE.SortData
import KE.KStateDown
import HandS.Defaults
import HandS.Head0
import HandS.Head1
import HandS.Head2
import HandS.HeadEnd
import HandS.HeadHook1
import HandS.HeadHook2
import HandS.Deep
import HandS.Conv
import HandS.SetFor
import HandS.TryOnly
import HandS.ExcIs
import KE.DataCmp
import KE.DataFind
import KE.DataMinMax
import PyProof.Rows.SumAny
import HandS.Small
import HandS.DictComp
import PyProof.SetRoads
import KE.KEqDict
import KE.KDictDisplayH
import KE.KDictCopyH
import KE.KDictSum
import HandS.Strs
import PyProof.MinMaxWalk
import PyProof.WalkInts
import HandS.ExcInit
import HandS.ExcField
import PySem.Challenge.RW_flagplans_k17_needed_waits_and_least_pla
set_option Elab.async false
set_option linter.all false
set_option maxRecDepth 100000
set_option maxHeartbeats 4000000
namespace Mini
open PySem PySem.Spec PyProof.Rows L2

inductive MV where
  | non
  | bl (b : Bool)
  | int (i : Int)
  | str (x : Str)
  | tup (xs : List MV)
  | fl (xs : List MV)
  | sc (xs : List MV)
  | fd (ks vs : List MV)
  | fs (xs : List MV)
  | fi (c : Nat) (vs : List MV)
  | ex (c : Nat) (vs : List MV)
  | ref (n : Nat)

inductive Cell where
  | lst (xs : List MV)
  | dct (ep : Nat) (ks vs : List MV)
  | st (xs : List MV)
  | ins (c : Nat) (vs : List MV)

abbrev MHp := List Cell
abbrev MSt := List (Option MV)

structure Lay where
  w : World
  cls : Nat → Addr
  fld : Nat → List Str
  /-- objects that are being made: no value leads to them -/
  hid : Addr → Prop

def Lay.re (Y : Lay) (hid : Addr → Prop) : Lay := { Y with hid := hid }
mutual
def MV.key : MV → Option NestedKey
  | .non => some .none
  | .bl b => some (.num (if b = true then 1 else 0))
  | .int i => some (.num i)
  | .str x => some (.text x)
  | .tup xs => (keyAll xs).map .tup
  | _ => none
def keyAll : List MV → Option (List NestedKey)
  | [] => some []
  | x :: xs => match x.key, keyAll xs with
    | some k, some ks => some (k :: ks)
    | _, _ => none
end
abbrev DEnt := NestedKey × V × V
abbrev SEnt := NestedKey × V
def dO (w : World) (a : Addr) (ep : Nat) (es : List DEnt) : HO := .ext fun h => ∃ o ds, h.get? a = some o ∧ o.ExactDict ∧ o.data = .dict ds ep ∧
  Paired (fun (p : DEnt) (e : DictEntry) => e.hash = p.1.hash w ∧ RelV p.2.1 e.key ∧ RelV p.2.2 e.val) es ds.toList
structure DGood (a : Addr) (ks : List MV) (es : List DEnt) : Prop where
  keys : ks.map MV.key = es.map fun e => some e.1
  nd : (es.map (·.1)).Nodup
  len : es.length ≤ sizeLine
  sys : (a == sysModules) = false
  dp : ∀ e ∈ es, e.1.depth ≤ 8
  tup : ∀ e ∈ es, ∃ l, e.1 = .tup l
def sO (w : World) (a : Addr) (es : List SEnt) : HO := .ext fun h => ∃ o rs ep t, h.get? a = some o ∧ o.ExactSet ∧ o.data = .set rs ep t ∧
  Paired (fun (p : SEnt) (e : Int × Value) => e.1 = p.1.hash w ∧ RelV p.2 e.2) es rs.toList ∧
  TabOk t (es.map fun p => p.1.hash w) ∧ t.plain = true ∧ (w.params.followText "set-order" = true ∨ t.led = true) ∧ es.length * 5 < t.mask * 3
structure SGood (xs : List MV) (es : List SEnt) : Prop where
  keys : xs.map MV.key = es.map fun e => some e.1
  nd : (es.map (·.1)).Nodup
  len : es.length < 76
def eO (a C : Addr) (d : Option Addr) : HO := .ext fun h => ∃ oe vs, h.get? a = some oe ∧ Zc (.ref C) d oe ∧ oe.data = .fields vs

def Off (Y : Lay) (ι : Nat → Addr) (n : Nat) (a : Addr) : Prop := ¬ Y.hid a ∧ ∀ i, i < n → ι i ≠ a
mutual
inductive Rep (Y : Lay) (ι : Nat → Addr) (n : Nat) (H : Hp) : MV → V → Prop
  | non : Rep Y ι n H .non .non
  | bl (b : Bool) : Rep Y ι n H (.bl b) (.bl b)
  | int (i : Int) : Rep Y ι n H (.int i) (.int i)
  | str (x : Str) : Rep Y ι n H (.str x) (.str x)
  | tup {xs : List MV} {vs : List V} {a : Addr} : H a = some (.tup vs) → RepAll Y ι n H xs vs → Rep Y ι n H (.tup xs) (.ref a)
  | fl {xs : List MV} {vs : List V} {a : Addr} : H a = some (.lst vs) → Off Y ι n a → RepAll Y ι n H xs vs → Rep Y ι n H (.fl xs) (.ref a)
  | sc {xs : List MV} {vs : List V} {a : Addr} : Rd H a (.lst vs) → Off Y ι n a → RepAll Y ι n H xs vs → Rep Y ι n H (.sc xs) (.ref a)
  | fd {ep : Nat} {ks xs : List MV} {es : List DEnt} {a : Addr} : H a = some (dO Y.w a ep es) → Off Y ι n a → DGood a ks es → RepAll Y ι n H ks (es.map (·.2.1)) → RepAll Y ι n H xs (es.map (·.2.2)) → Rep Y ι n H (.fd ks xs) (.ref a)
  | fs {xs ys : List MV} {es : List SEnt} {a : Addr} : H a = some (sO Y.w a es) → Off Y ι n a → ys.Perm xs → SGood ys es → RepAll Y ι n H ys (es.map (·.2)) → Rep Y ι n H (.fs xs) (.ref a)
  | fi {c : Nat} {xs : List MV} {ys : List V} {a dx : Addr} : H a = some (.ins (Y.cls c) dx ((Y.fld c).zip ys)) → Off Y ι n a → ys.length ≤ (Y.fld c).length → RepAll Y ι n H xs ys → Rep Y ι n H (.fi c xs) (.ref a)
  | ex0 {c : Nat} {a : Addr} : H a = some (eO a (Y.cls c) none) → Off Y ι n a → Rep Y ι n H (.ex c []) (.ref a)
  | ex1 {c : Nat} {xs : List MV} {ys : List V} {a d : Addr} {fs : List (Str × V)} : H a = some (eO a (Y.cls c) (some d)) → Off Y ι n a → H d = some (.xd fs) → (∀ (j : Nat) (y : V), ys[j]? = some y → ∃ f : Str, (Y.fld c)[j]? = some f ∧ fs.lookup f = some y) → RepAll Y ι n H xs ys → Rep Y ι n H (.ex c xs) (.ref a)
  | ref {i : Nat} : i < n → Rep Y ι n H (.ref i) (.ref (ι i))
inductive RepAll (Y : Lay) (ι : Nat → Addr) (n : Nat) (H : Hp) : List MV → List V → Prop
  | nil : RepAll Y ι n H [] []
  | cons {x : MV} {xs : List MV} {v : V} {vs : List V} : Rep Y ι n H x v → RepAll Y ι n H xs vs → RepAll Y ι n H (x :: xs) (v :: vs)
end
def RepC (Y : Lay) (ι : Nat → Addr) (n : Nat) (H : Hp) (a : Addr) : Cell → Prop
  | .lst xs => ∃ vs, H a = some (.lst vs) ∧ RepAll Y ι n H xs vs
  | .dct ep ks xs => ∃ es, H a = some (dO Y.w a ep es) ∧ DGood a ks es ∧ RepAll Y ι n H ks (es.map (·.2.1)) ∧ RepAll Y ι n H xs (es.map (·.2.2))
  | .st xs => ∃ ys es, H a = some (sO Y.w a es) ∧ ys.Perm xs ∧ SGood ys es ∧ RepAll Y ι n H ys (es.map (·.2))
  | .ins c xs => ∃ dx ys, H a = some (.ins (Y.cls c) dx ((Y.fld c).zip ys)) ∧ ys.length ≤ (Y.fld c).length ∧ RepAll Y ι n H xs ys

structure HR (Y : Lay) (ι : Nat → Addr) (hm : MHp) (H : Hp) : Prop where
  inj : ∀ i j, i < hm.length → j < hm.length → ι i = ι j → i = j
  cell : ∀ i c, hm[i]? = some c → RepC Y ι hm.length H (ι i) c
  hid : ∀ a, Y.hid a → (∃ o, H a = some o) ∧ ∀ i, i < hm.length → ι i ≠ a

def mutK : HO → Bool
  | .lst _ => true
  | .ins _ _ _ => true
  | .ext _ => true
  | _ => false
def Live (ι : Nat → Addr) (n : Nat) (H : Hp) : Prop := ∀ i, i < n → ∃ o, H (ι i) = some o ∧ mutK o = true

section
variable {Y : Lay} {ι ι' : Nat → Addr} {n n' : Nat} {H H' : Hp} {hm : MHp}
theorem RepC.there {a : Addr} {c : Cell} (h : RepC Y ι n H a c) : ∃ o, H a = some o ∧ mutK o = true := by
  cases c with
  | lst xs => obtain ⟨_, h, _⟩ := h; exact ⟨_, h, rfl⟩
  | dct ep ks xs => obtain ⟨_, h, _⟩ := h; exact ⟨_, h, rfl⟩
  | st xs => obtain ⟨_, _, h, _⟩ := h; exact ⟨_, h, rfl⟩
  | ins c xs => obtain ⟨_, _, h, _⟩ := h; exact ⟨_, h, rfl⟩
theorem HR.live (h : HR Y ι hm H) : Live ι hm.length H := fun i hi => RepC.there (h.cell i hm[i] (List.getElem?_eq_getElem hi))
end

structure Ext (n n' : Nat) (ι ι' : Nat → Addr) (H H' : Hp) : Prop where
  le : n ≤ n'
  same : ∀ i, i < n → ι' i = ι i
  keep : ∀ a o, H a = some o → (∀ i, i < n → ι i ≠ a) → H' a = some o
  fresh : ∀ i, n ≤ i → i < n' → H (ι' i) = none
section
variable {Y : Lay} {ι ι' ι2 : Nat → Addr} {n n' n2 : Nat} {H H' H2 : Hp} {hm : MHp}
theorem Ext.refl : Ext n n ι ι H H := ⟨Nat.le_refl _, fun _ _ => rfl, fun _ _ h _ => h, fun i h1 h2 => absurd h1 (by omega)⟩
theorem Ext.trans (a : Ext n n' ι ι' H H') (b : Ext n' n2 ι' ι2 H' H2) (l : Live ι n H) (l' : Live ι' n' H') : Ext n n2 ι ι2 H H2 where
  le := Nat.le_trans a.le b.le
  same := fun i hi => (b.same i (Nat.lt_of_lt_of_le hi a.le)).trans (a.same i hi)
  keep := fun c o hc hn => b.keep c o (a.keep c o hc hn) fun i hi e => by
    by_cases h : i < n
    · exact hn i h ((a.same i h).symm.trans e)
    · have q := a.fresh i (by omega) hi
      rw [e, hc] at q
      cases q
  fresh := fun i h1 h2 => by
    by_cases h : i < n'
    · rw [b.same i h]
      exact a.fresh i h1 h
    · have q := b.fresh i (by omega) h2
      cases e : H (ι2 i) with
      | none => rfl
      | some o =>
        by_cases hj : ∃ j, j < n ∧ ι j = ι2 i
        · obtain ⟨j, hj, ej⟩ := hj
          obtain ⟨u, hu, _⟩ := l' j (Nat.lt_of_lt_of_le hj a.le)
          rw [a.same j hj, ej, q] at hu
          cases hu
        · have z := a.keep _ _ e fun j hjn ej => hj ⟨j, hjn, ej⟩
          rw [q] at z
          cases z
theorem Ext.off (e : Ext n n' ι ι' H H') {a : Addr} {o : HO} (h : H a = some o) (ho : Off Y ι n a) : Off Y ι' n' a := ⟨ho.1, fun i hi q => by
  by_cases hn : i < n
  · exact ho.2 i hn ((e.same i hn).symm.trans q)
  · have z := e.fresh i (by omega) hi
    rw [q, h] at z
    cases z⟩
theorem Ext.rd (e : Ext n n' ι ι' H H') {a : Addr} {u : HO} (h : Rd H a u) (ho : Off Y ι n a) : Rd H' a u ∧ Off Y ι' n' a := by
  rcases h with h | ⟨o, h⟩
  · exact ⟨.inl (e.keep _ _ h ho.2), e.off h ho⟩
  · exact ⟨.inr ⟨o, e.keep _ _ h ho.2⟩, e.off h ho⟩
theorem Ext.imm (e : Ext n n' ι ι' H H') (l : Live ι n H) {a : Addr} {o : HO} (h : H a = some o) (hm : mutK o = false) : H' a = some o :=
  e.keep _ _ h fun i hi q => by
    obtain ⟨u, hu, hk⟩ := l i hi
    rw [q, h] at hu
    cases hu
    rw [hm] at hk
    cases hk
theorem Off.rehid {q : Addr → Prop} {a : Addr} (o : Off Y ι n a) (hs : ∀ a, q a → Y.hid a ∨ H a = none) (h : (∃ v, H a = some (HO.lst v)) ∨ ∃ u, H a = some u) : Off (Y.re q) ι n a := by
  refine ⟨fun z => ?_, o.2⟩
  rcases hs a z with y | y
  · exact o.1 y
  · rcases h with ⟨_, h⟩ | ⟨_, h⟩ <;> (rw [y] at h; cases h)
theorem Off.updH {D a : Addr} {o u : HO} (k : Off Y ι n a) (hD : Y.hid D) (h : H a = some u) : upd H D o a = some u := by
  have ne : a ≠ D := fun z => k.1 (by rw [z]; exact hD)
  rw [upd_ne ne]
  exact h
theorem upd_imm {D a : Addr} {o u w : HO} (e : H D = some u) (hm : mutK u = true) (h : H a = some w) (hw : mutK w = false) : upd H D o a = some w := by
  have ne : a ≠ D := fun z => by
    rw [z, e] at h
    cases h
    rw [hm] at hw
    cases hw
  rw [upd_ne ne]
  exact h
mutual
theorem Rep.mono (e : Ext n n' ι ι' H H') (l : Live ι n H) : ∀ {v : MV} {x : V}, Rep Y ι n H v x → Rep Y ι' n' H' v x
  | _, _, .non => .non
  | _, _, .bl b => .bl b
  | _, _, .int i => .int i
  | _, _, .str x => .str x
  | _, _, .tup h r => .tup (e.imm l h rfl) (RepAll.mono e l r)
  | _, _, .fl h o r => .fl (e.keep _ _ h o.2) (e.off h o) (RepAll.mono e l r)
  | _, _, .sc h o r => .sc (e.rd h o).1 (e.rd h o).2 (RepAll.mono e l r)
  | _, _, .fd h o g r r2 => .fd (e.keep _ _ h o.2) (e.off h o) g (RepAll.mono e l r) (RepAll.mono e l r2)
  | _, _, .fs h o p g r => .fs (e.keep _ _ h o.2) (e.off h o) p g (RepAll.mono e l r)
  | _, _, .fi h o g r => .fi (e.keep _ _ h o.2) (e.off h o) g (RepAll.mono e l r)
  | _, _, .ex0 h o => .ex0 (e.keep _ _ h o.2) (e.off h o)
  | _, _, .ex1 h o hd g r => .ex1 (e.keep _ _ h o.2) (e.off h o) (e.imm l hd rfl) g (RepAll.mono e l r)
  | _, _, .ref (i := i) h => (e.same i h) ▸ .ref (Nat.lt_of_lt_of_le h e.le)
theorem RepAll.mono (e : Ext n n' ι ι' H H') (l : Live ι n H) : ∀ {v : List MV} {x : List V}, RepAll Y ι n H v x → RepAll Y ι' n' H' v x
  | _, _, .nil => .nil
  | _, _, .cons h t => .cons (Rep.mono e l h) (RepAll.mono e l t)
end
mutual
/-- more is hidden, that stands on free addresses -/
theorem Rep.rehid {q : Addr → Prop} (hs : ∀ a, q a → Y.hid a ∨ H a = none) : ∀ {v : MV} {x : V}, Rep Y ι n H v x → Rep (Y.re q) ι n H v x
  | _, _, .non => .non
  | _, _, .bl b => .bl b
  | _, _, .int i => .int i
  | _, _, .str x => .str x
  | _, _, .tup h r => .tup h (RepAll.rehid hs r)
  | _, _, .fl h o r => .fl h (o.rehid hs (.inl ⟨_, h⟩)) (RepAll.rehid hs r)
  | _, _, .sc h o r => .sc h (o.rehid hs (h.elim (fun z => .inl ⟨_, z⟩) fun ⟨_, z⟩ => .inr ⟨_, z⟩)) (RepAll.rehid hs r)
  | _, _, .fd h o g r r2 => .fd h (o.rehid hs (.inr ⟨_, h⟩)) g (RepAll.rehid hs r) (RepAll.rehid hs r2)
  | _, _, .fs h o p g r => .fs h (o.rehid hs (.inr ⟨_, h⟩)) p g (RepAll.rehid hs r)
  | _, _, .fi h o g r => .fi h (o.rehid hs (.inr ⟨_, h⟩)) g (RepAll.rehid hs r)
  | _, _, .ex0 h o => .ex0 h (o.rehid hs (.inr ⟨_, h⟩))
  | _, _, .ex1 h o hd g r => .ex1 h (o.rehid hs (.inr ⟨_, h⟩)) hd g (RepAll.rehid hs r)
  | _, _, .ref h => .ref h
theorem RepAll.rehid {q : Addr → Prop} (hs : ∀ a, q a → Y.hid a ∨ H a = none) : ∀ {v : List MV} {x : List V}, RepAll Y ι n H v x → RepAll (Y.re q) ι n H v x
  | _, _, .nil => .nil
  | _, _, .cons h t => .cons (Rep.rehid hs h) (RepAll.rehid hs t)
end
mutual
/-- less is hidden -/
theorem Rep.unhid {q : Addr → Prop} (hs : ∀ a, q a → Y.hid a) : ∀ {v : MV} {x : V}, Rep Y ι n H v x → Rep (Y.re q) ι n H v x
  | _, _, .non => .non
  | _, _, .bl b => .bl b
  | _, _, .int i => .int i
  | _, _, .str x => .str x
  | _, _, .tup h r => .tup h (RepAll.unhid hs r)
  | _, _, .fl h o r => .fl h ⟨fun z => o.1 (hs _ z), o.2⟩ (RepAll.unhid hs r)
  | _, _, .sc h o r => .sc h ⟨fun z => o.1 (hs _ z), o.2⟩ (RepAll.unhid hs r)
  | _, _, .fd h o g r r2 => .fd h ⟨fun z => o.1 (hs _ z), o.2⟩ g (RepAll.unhid hs r) (RepAll.unhid hs r2)
  | _, _, .fs h o p g r => .fs h ⟨fun z => o.1 (hs _ z), o.2⟩ p g (RepAll.unhid hs r)
  | _, _, .fi h o g r => .fi h ⟨fun z => o.1 (hs _ z), o.2⟩ g (RepAll.unhid hs r)
  | _, _, .ex0 h o => .ex0 h ⟨fun z => o.1 (hs _ z), o.2⟩
  | _, _, .ex1 h o hd g r => .ex1 h ⟨fun z => o.1 (hs _ z), o.2⟩ hd g (RepAll.unhid hs r)
  | _, _, .ref h => .ref h
theorem RepAll.unhid {q : Addr → Prop} (hs : ∀ a, q a → Y.hid a) : ∀ {v : List MV} {x : List V}, RepAll Y ι n H v x → RepAll (Y.re q) ι n H v x
  | _, _, .nil => .nil
  | _, _, .cons h t => .cons (Rep.unhid hs h) (RepAll.unhid hs t)
end
mutual
/-- a hidden object is changed -/
theorem Rep.updH {D : Addr} {o u : HO} (hD : Y.hid D) (e : H D = some u) (hm : mutK u = true) : ∀ {v : MV} {x : V}, Rep Y ι n H v x → Rep Y ι n (upd H D o) v x
  | _, _, .non => .non
  | _, _, .bl b => .bl b
  | _, _, .int i => .int i
  | _, _, .str x => .str x
  | _, _, .tup h r => .tup (upd_imm e hm h rfl) (RepAll.updH hD e hm r)
  | _, _, .fl h k r => .fl (k.updH hD h) k (RepAll.updH hD e hm r)
  | _, _, .sc h k r => .sc (h.elim (fun h => .inl (k.updH hD h)) fun ⟨_, h⟩ => .inr ⟨_, k.updH hD h⟩) k (RepAll.updH hD e hm r)
  | _, _, .fd h k g r r2 => .fd (k.updH hD h) k g (RepAll.updH hD e hm r) (RepAll.updH hD e hm r2)
  | _, _, .fs h k p g r => .fs (k.updH hD h) k p g (RepAll.updH hD e hm r)
  | _, _, .fi h k g r => .fi (k.updH hD h) k g (RepAll.updH hD e hm r)
  | _, _, .ex0 h k => .ex0 (k.updH hD h) k
  | _, _, .ex1 h k hd g r => .ex1 (k.updH hD h) k (upd_imm e hm hd rfl) g (RepAll.updH hD e hm r)
  | _, _, .ref h => .ref h
theorem RepAll.updH {D : Addr} {o u : HO} (hD : Y.hid D) (e : H D = some u) (hm : mutK u = true) : ∀ {v : List MV} {x : List V}, RepAll Y ι n H v x → RepAll Y ι n (upd H D o) v x
  | _, _, .nil => .nil
  | _, _, .cons h t => .cons (Rep.updH hD e hm h) (RepAll.updH hD e hm t)
end
theorem RepAll.length : ∀ {v : List MV} {x : List V}, RepAll Y ι n H v x → v.length = x.length
  | _, _, .nil => rfl
  | _, _, .cons _ t => by rw [List.length_cons, List.length_cons, RepAll.length t]
theorem RepAll.get : ∀ {v : List MV} {x : List V} {i : Nat} {a : MV}, RepAll Y ι n H v x → v[i]? = some a → ∃ b, x[i]? = some b ∧ Rep Y ι n H a b
  | _, _, _, _, .nil, h => by simp at h
  | _, _, 0, _, .cons h _, e => by
    simp only [List.getElem?_cons_zero, Option.some.injEq] at e
    exact ⟨_, rfl, e ▸ h⟩
  | _, _, i + 1, _, .cons _ t, e => by
    simp only [List.getElem?_cons_succ] at e ⊢
    exact RepAll.get t e
theorem RepAll.append : ∀ {v u : List MV} {x y : List V}, RepAll Y ι n H v x → RepAll Y ι n H u y → RepAll Y ι n H (v ++ u) (x ++ y)
  | _, _, _, _, .nil, s => s
  | _, _, _, _, .cons h t, s => .cons h (RepAll.append t s)
theorem RepAll.take : ∀ {v : List MV} {x : List V} (k : Nat), RepAll Y ι n H v x → RepAll Y ι n H (v.take k) (x.take k)
  | _, _, 0, _ => .nil
  | _, _, _ + 1, .nil => .nil
  | _, _, k + 1, .cons h t => .cons h (RepAll.take k t)
theorem RepAll.drop : ∀ {v : List MV} {x : List V} (k : Nat), RepAll Y ι n H v x → RepAll Y ι n H (v.drop k) (x.drop k)
  | _, _, 0, h => h
  | _, _, _ + 1, .nil => .nil
  | _, _, k + 1, .cons _ t => RepAll.drop k t
theorem RepAll.set {a : MV} {b : V} (h : Rep Y ι n H a b) : ∀ {v : List MV} {x : List V} (k : Nat), RepAll Y ι n H v x → RepAll Y ι n H (v.set k a) (x.set k b)
  | _, _, _, .nil => .nil
  | _, _, 0, .cons _ t => .cons h t
  | _, _, k + 1, .cons g t => .cons g (RepAll.set h k t)
theorem RepAll.reverse : ∀ {v : List MV} {x : List V}, RepAll Y ι n H v x → RepAll Y ι n H v.reverse x.reverse
  | _, _, .nil => .nil
  | _, _, .cons h t => by
    rw [List.reverse_cons, List.reverse_cons]
    exact (RepAll.reverse t).append (.cons h .nil)
end

def RS (Y : Lay) (ι : Nat → Addr) (n : Nat) (H : Hp) (sm : MSt) (s : L2.St) : Prop :=
  sm.length = s.length ∧ ∀ (i : Nat) (v : MV), sm[i]? = some (some v) → ∃ x : V, s[i]? = some (some x) ∧ Rep Y ι n H v x
section
variable {Y : Lay} {ι ι' : Nat → Addr} {n n' : Nat} {H H' : Hp} {sm : MSt} {s : L2.St}
theorem RS.mono (e : Ext n n' ι ι' H H') (l : Live ι n H) (r : RS Y ι n H sm s) : RS Y ι' n' H' sm s :=
  ⟨r.1, fun i v h => let ⟨x, hx, q⟩ := r.2 i v h; ⟨x, hx, q.mono e l⟩⟩
theorem RS.set (r : RS Y ι n H sm s) (i : Nat) {v : MV} {x : V} (h : Rep Y ι n H v x) : RS Y ι n H (sm.set i (some v)) (s.set i (some x)) := by
  refine ⟨by simp [r.1], fun j u e => ?_⟩
  by_cases hj : i = j
  · subst hj
    by_cases hl : i < sm.length
    · rw [List.getElem?_set_self hl] at e
      cases e
      exact ⟨x, by rw [List.getElem?_set_self (r.1 ▸ hl)], h⟩
    · rw [List.getElem?_eq_none (by simpa using hl)] at e
      cases e
  · rw [List.getElem?_set_ne hj] at e
    obtain ⟨y, hy, q⟩ := r.2 j u e
    exact ⟨y, by rw [List.getElem?_set_ne hj]; exact hy, q⟩
end

abbrev MQ := MV → MHp → Prop
abbrev ME := MSt → MHp → MQ → MQ → Prop
abbrev MT := MSt → MHp → (Bool → MHp → Prop) → MQ → Prop
abbrev MA := MSt → MHp → (List MV → MHp → Prop) → MQ → Prop
structure MD where
  nx : MSt → MHp → Prop
  rt : MQ
  bk : MSt → MHp → Prop := fun _ _ => False
  ct : MSt → MHp → Prop := fun _ _ => False
  ex : MV → MSt → MHp → Prop
abbrev MS := MSt → MHp → MD → Prop

def RepX (Y : Lay) (ι : Nat → Addr) (n : Nat) (H : Hp) (e : MV) (cls : Value) (d : Option Addr) : Prop :=
  ∃ c xs, e = .ex c xs ∧ cls = .ref (Y.cls c) ∧ ((xs = [] ∧ d = none) ∨ ∃ (dd : Addr) (fs : List (Str × V)) (ys : List V), d = some dd ∧ H dd = some (.xd fs) ∧ (∀ (j : Nat) (y : V), ys[j]? = some y → ∃ f : Str, (Y.fld c)[j]? = some f ∧ fs.lookup f = some y) ∧ RepAll Y ι n H xs ys)
section
variable (Y : Lay)
def TrQ (ι : Nat → Addr) (n : Nat) (H : Hp) (Qm : MQ) (Q : VK) : Prop :=
  ∀ v h' ι' H' x, HR Y ι' h' H' → Ext n h'.length ι ι' H H' → Rep Y ι' h'.length H' v x → Qm v h' → Q x H'
def TrB (ι : Nat → Addr) (n : Nat) (H : Hp) (Qm : Bool → MHp → Prop) (Q : Bool → Hp → Prop) : Prop :=
  ∀ b h' ι' H', HR Y ι' h' H' → Ext n h'.length ι ι' H H' → Qm b h' → Q b H'
def TrA (ι : Nat → Addr) (n : Nat) (H : Hp) (Qm : List MV → MHp → Prop) (Q : List V → Hp → Prop) : Prop :=
  ∀ vs h' ι' H' xs, HR Y ι' h' H' → Ext n h'.length ι ι' H H' → RepAll Y ι' h'.length H' vs xs → Qm vs h' → Q xs H'
def TrX (ι : Nat → Addr) (n : Nat) (H : Hp) (s : L2.St) (Em : MQ) (W : WX) : Prop :=
  ∀ e h' ι' H' cls d, HR Y ι' h' H' → Ext n h'.length ι ι' H H' → RepX Y ι' h'.length H' e cls d → Em e h' → W cls d s H'
def TrN (ι : Nat → Addr) (n : Nat) (H : Hp) (Qm : MSt → MHp → Prop) (Q : L2.St → Hp → Prop) : Prop :=
  ∀ sm' h' ι' H' s', HR Y ι' h' H' → Ext n h'.length ι ι' H H' → RS Y ι' h'.length H' sm' s' → Qm sm' h' → Q s' H'
def TrY (ι : Nat → Addr) (n : Nat) (H : Hp) (Em : MV → MSt → MHp → Prop) (W : WX) : Prop :=
  ∀ e sm' h' ι' H' s' cls d, HR Y ι' h' H' → Ext n h'.length ι ι' H H' → RS Y ι' h'.length H' sm' s' → RepX Y ι' h'.length H' e cls d → Em e sm' h' → W cls d s' H'
structure TrD (W : WX) (ι : Nat → Addr) (n : Nat) (H : Hp) (Dm : MD) (D : Ends) : Prop where
  nx : TrN Y ι n H Dm.nx D.nx
  rt : TrQ Y ι n H Dm.rt D.rt
  bk : TrN Y ι n H Dm.bk D.bk
  ct : TrN Y ι n H Dm.ct D.ct
  ex : TrY Y ι n H Dm.ex W
def tM (W : WX) (m : ME) : TE := fun s H Q => ∃ ι sm hm Qm Em, HR Y ι hm H ∧ RS Y ι hm.length H sm s ∧ m sm hm Qm Em ∧ TrQ Y ι hm.length H Qm Q ∧ TrX Y ι hm.length H s Em W
def tMT (W : WX) (m : MT) : TT := fun s H Q => ∃ ι sm hm Qm Em, HR Y ι hm H ∧ RS Y ι hm.length H sm s ∧ m sm hm Qm Em ∧ TrB Y ι hm.length H Qm Q ∧ TrX Y ι hm.length H s Em W
def tMA (W : WX) (m : MA) : TA := fun s H Q => ∃ ι sm hm Qm Em, HR Y ι hm H ∧ RS Y ι hm.length H sm s ∧ m sm hm Qm Em ∧ TrA Y ι hm.length H Qm Q ∧ TrX Y ι hm.length H s Em W
def tMS (W : WX) (m : MS) : TS := fun D s H => ∃ ι sm hm Dm, HR Y ι hm H ∧ RS Y ι hm.length H sm s ∧ m sm hm Dm ∧ TrD Y W ι hm.length H Dm D
end
abbrev SE (Y : Lay) (W : WX) (X : Cx) (m : ME) (e : Expr) : Prop := PE X e (tM Y W m)
abbrev ST (Y : Lay) (W : WX) (X : Cx) (m : MT) (e : Expr) : Prop := PT X e (tMT Y W m)
abbrev SA (Y : Lay) (W : WX) (X : Cx) (m : MA) (es : List Expr) : Prop := PA X es (tMA Y W m)
abbrev SS (Y : Lay) (W : WX) (X : Cx) (m : MS) (st : Stmt) : Prop := PS X st (tMS Y W m)
abbrev SSs (Y : Lay) (W : WX) (X : Cx) (m : MS) (sts : List Stmt) : Prop := PSs X sts (tMS Y W m)

section
variable {Y : Lay} {W : WX} {X : Cx} {ι ι1 : Nat → Addr} {n n1 : Nat} {H H1 : Hp} {s : L2.St}
theorem TrQ.mono {Qm : MQ} {Q : VK} (t : TrQ Y ι n H Qm Q) (e : Ext n n1 ι ι1 H H1) (l : Live ι n H) (l1 : Live ι1 n1 H1) : TrQ Y ι1 n1 H1 Qm Q :=
  fun v h' ι' H' x hr ex r q => t v h' ι' H' x hr (e.trans ex l l1) r q
theorem TrB.mono {Qm : Bool → MHp → Prop} {Q : Bool → Hp → Prop} (t : TrB Y ι n H Qm Q) (e : Ext n n1 ι ι1 H H1) (l : Live ι n H) (l1 : Live ι1 n1 H1) : TrB Y ι1 n1 H1 Qm Q :=
  fun v h' ι' H' hr ex q => t v h' ι' H' hr (e.trans ex l l1) q
theorem TrA.mono {Qm : List MV → MHp → Prop} {Q : List V → Hp → Prop} (t : TrA Y ι n H Qm Q) (e : Ext n n1 ι ι1 H H1) (l : Live ι n H) (l1 : Live ι1 n1 H1) : TrA Y ι1 n1 H1 Qm Q :=
  fun v h' ι' H' x hr ex r q => t v h' ι' H' x hr (e.trans ex l l1) r q
theorem TrX.mono {Em : MQ} (t : TrX Y ι n H s Em W) (e : Ext n n1 ι ι1 H H1) (l : Live ι n H) (l1 : Live ι1 n1 H1) : TrX Y ι1 n1 H1 s Em W :=
  fun v h' ι' H' c d hr ex r q => t v h' ι' H' c d hr (e.trans ex l l1) r q
theorem TrN.mono {Qm : MSt → MHp → Prop} {Q : L2.St → Hp → Prop} (t : TrN Y ι n H Qm Q) (e : Ext n n1 ι ι1 H H1) (l : Live ι n H) (l1 : Live ι1 n1 H1) : TrN Y ι1 n1 H1 Qm Q :=
  fun v h' ι' H' x hr ex r q => t v h' ι' H' x hr (e.trans ex l l1) r q
theorem TrY.mono {Em : MV → MSt → MHp → Prop} (t : TrY Y ι n H Em W) (e : Ext n n1 ι ι1 H H1) (l : Live ι n H) (l1 : Live ι1 n1 H1) : TrY Y ι1 n1 H1 Em W :=
  fun v sm h' ι' H' s' c d hr ex rs r q => t v sm h' ι' H' s' c d hr (e.trans ex l l1) rs r q
theorem TrD.mono {Dm : MD} {D : Ends} (t : TrD Y W ι n H Dm D) (e : Ext n n1 ι ι1 H H1) (l : Live ι n H) (l1 : Live ι1 n1 H1) : TrD Y W ι1 n1 H1 Dm D :=
  ⟨t.nx.mono e l l1, t.rt.mono e l l1, t.bk.mono e l l1, t.ct.mono e l l1, t.ex.mono e l l1⟩
theorem peI {e : Expr} {t t' : TE} (h : PE X e t) (i : ∀ s H Q, t' s H Q → t s H Q) : PE X e t' := ⟨fun pins s σ H Q I q => h.run pins s σ H Q I (i _ _ _ q)⟩
theorem ptI {e : Expr} {t t' : TT} (h : PT X e t) (i : ∀ s H Q, t' s H Q → t s H Q) : PT X e t' := ⟨fun pins s σ H Q I q => h.run pins s σ H Q I (i _ _ _ q)⟩
theorem pwI {e : Expr} {t t' : TT} (h : PW X e t) (i : ∀ s H Q, t' s H Q → t s H Q) : PW X e t' := ⟨fun wh pins s σ H Q I q => h.run wh pins s σ H Q I (i _ _ _ q)⟩
theorem paI {e : List Expr} {t t' : TA} (h : PA X e t) (i : ∀ s H Q, t' s H Q → t s H Q) : PA X e t' := ⟨fun p pins s σ H Q I q => h.run p pins s σ H Q I (i _ _ _ q)⟩
theorem psI {e : Stmt} {t t' : TS} (h : PS X e t) (i : ∀ s H Q, t' s H Q → t s H Q) : PS X e t' := ⟨fun pins s σ H Q I q => h.run pins s σ H Q I (i _ _ _ q)⟩
theorem pssI {e : List Stmt} {t t' : TS} (h : PSs X e t) (i : ∀ s H Q, t' s H Q → t s H Q) : PSs X e t' := ⟨fun pins s σ H Q I q => h.run pins s σ H Q I (i _ _ _ q)⟩
end
end Mini
namespace Mini
open PySem PySem.Spec PyProof.Rows L2

section
variable (Y : Lay)
def R1M (op : MV → MHp → MQ → Prop) : V → Hp → VK → Prop := fun x H Q => ∃ ι hm v Qm, HR Y ι hm H ∧ Rep Y ι hm.length H v x ∧ op v hm Qm ∧ TrQ Y ι hm.length H Qm Q
def R2M (op : MV → MV → MHp → MQ → Prop) : R2 := fun x y H Q => ∃ ι hm v u Qm, HR Y ι hm H ∧ Rep Y ι hm.length H v x ∧ Rep Y ι hm.length H u y ∧ op v u hm Qm ∧ TrQ Y ι hm.length H Qm Q
def RNM (op : List MV → MHp → MQ → Prop) : List V → Hp → VK → Prop := fun xs H Q => ∃ ι hm vs Qm, HR Y ι hm H ∧ RepAll Y ι hm.length H vs xs ∧ op vs hm Qm ∧ TrQ Y ι hm.length H Qm Q
def RmM (op : MV → List MV → MHp → MQ → Prop) : V → List V → Hp → VK → Prop := fun x xs H Q => ∃ ι hm v vs Qm, HR Y ι hm H ∧ Rep Y ι hm.length H v x ∧ RepAll Y ι hm.length H vs xs ∧ op v vs hm Qm ∧ TrQ Y ι hm.length H Qm Q
end
theorem TrQ.here {Y : Lay} {ι : Nat → Addr} {hm : MHp} {H : Hp} {Qm : MQ} {Q : VK} {v : MV} {x : V} (t : TrQ Y ι hm.length H Qm Q) (hr : HR Y ι hm H) (r : Rep Y ι hm.length H v x) (q : Qm v hm) : Q x H :=
  t v hm ι H x hr .refl r q

section
variable {Y : Lay} {ι : Nat → Addr} {n : Nat} {hm : MHp} {H : Hp} {p : Addr} {o : HO}
theorem Ext.new (hp : H p = none) : Ext n n ι ι H (upd H p o) :=
  ⟨Nat.le_refl _, fun _ _ => rfl, fun a u e _ => by rw [upd_ne (ne_of_none e hp)]; exact e, fun i h1 h2 => absurd h1 (by omega)⟩
theorem repC_mono {ι' : Nat → Addr} {n' : Nat} {H' : Hp} {a : Addr} {c : Cell} (e : Ext n n' ι ι' H H') (l : Live ι n H) (hs : ∀ u, H a = some u → mutK u = true → H' a = some u) (r : RepC Y ι n H a c) : RepC Y ι' n' H' a c := by
  cases c with
  | lst xs => obtain ⟨vs, h, r⟩ := r; exact ⟨vs, hs _ h rfl, r.mono e l⟩
  | dct ep ks xs => obtain ⟨es, h, g, r, r2⟩ := r; exact ⟨es, hs _ h rfl, g, r.mono e l, r2.mono e l⟩
  | st xs => obtain ⟨ys, es, h, pm, g, r⟩ := r; exact ⟨ys, es, hs _ h rfl, pm, g, r.mono e l⟩
  | ins c xs => obtain ⟨dx, ys, h, g, r⟩ := r; exact ⟨dx, ys, hs _ h rfl, g, r.mono e l⟩
theorem HR.new (hr : HR Y ι hm H) (hp : H p = none) : HR Y ι hm (upd H p o) where
  inj := hr.inj
  cell := fun i c e => repC_mono (Ext.new hp) hr.live (fun u hu _ => by rw [upd_ne (ne_of_none hu hp)]; exact hu) (hr.cell i c e)
  hid := fun a ha => by
    obtain ⟨⟨u, hu⟩, h2⟩ := hr.hid a ha
    exact ⟨⟨u, by rw [upd_ne (ne_of_none hu hp)]; exact hu⟩, h2⟩
theorem HR.off (hr : HR Y ι hm H) (hp : H p = none) : Off Y ι hm.length p := by
  refine ⟨fun z => ?_, fun i hi => ?_⟩
  · obtain ⟨u, hu⟩ := (hr.hid p z).1
    rw [hp] at hu
    cases hu
  · obtain ⟨u, hu, _⟩ := hr.live i hi
    exact ne_of_none hu hp
def snocι (ι : Nat → Addr) (n : Nat) (p : Addr) : Nat → Addr := fun i => if i = n then p else ι i
theorem snocι_lt {i : Nat} (h : i < n) : snocι ι n p i = ι i := if_neg (by omega)
theorem snocι_at : snocι ι n p n = p := if_pos rfl
theorem Ext.snoc (hp : H p = none) : Ext n (n + 1) ι (snocι ι n p) H (upd H p o) :=
  ⟨Nat.le_succ _, fun i h => snocι_lt h, fun a u e _ => by rw [upd_ne (ne_of_none e hp)]; exact e, fun i h1 h2 => by
    obtain rfl : i = n := by omega
    rw [snocι_at]
    exact hp⟩
theorem HR.snoc (hr : HR Y ι hm H) (hp : H p = none) {c : Cell} (rc : RepC Y (snocι ι hm.length p) (hm.length + 1) (upd H p o) p c) : HR Y (snocι ι hm.length p) (hm ++ [c]) (upd H p o) where
  inj := fun i j hi hj e => by
    rw [List.length_append, List.length_singleton] at hi hj
    by_cases h1 : i < hm.length
    · by_cases h2 : j < hm.length
      · rw [snocι_lt h1, snocι_lt h2] at e
        exact hr.inj i j h1 h2 e
      · obtain rfl : j = hm.length := by omega
        rw [snocι_lt h1, snocι_at] at e
        exact absurd e ((hr.off hp).2 i h1)
    · obtain rfl : i = hm.length := by omega
      by_cases h2 : j < hm.length
      · rw [snocι_lt h2, snocι_at] at e
        exact absurd e.symm ((hr.off hp).2 j h2)
      · omega
  cell := fun i d e => by
    rw [List.length_append, List.length_singleton]
    by_cases h1 : i < hm.length
    · rw [List.getElem?_append_left h1] at e
      rw [snocι_lt h1]
      exact repC_mono (Ext.snoc hp) hr.live (fun u hu _ => by rw [upd_ne (ne_of_none hu hp)]; exact hu) (hr.cell i d e)
    · have h2 : i = hm.length := by
        have := (List.getElem?_eq_some_iff.mp e).1
        rw [List.length_append, List.length_singleton] at this
        omega
      subst h2
      rw [List.getElem?_append_right (Nat.le_refl _), Nat.sub_self] at e
      cases e
      rw [snocι_at]
      exact rc
  hid := fun a ha => by
    obtain ⟨⟨u, hu⟩, h2⟩ := hr.hid a ha
    refine ⟨⟨u, by rw [upd_ne (ne_of_none hu hp)]; exact hu⟩, fun i hi e => ?_⟩
    rw [List.length_append, List.length_singleton] at hi
    by_cases h1 : i < hm.length
    · rw [snocι_lt h1] at e
      exact h2 i h1 e
    · obtain rfl : i = hm.length := by omega
      rw [snocι_at] at e
      subst e
      exact (hr.off hp).1 ha
theorem TrQ.newL {Qm : MQ} {Q : VK} {xs : List MV} {vs : List V} (t : TrQ Y ι hm.length H Qm Q) (hr : HR Y ι hm H) (r : RepAll Y ι hm.length H xs vs) (q : Qm (.fl xs) hm) (hp : H p = none) : Q (.ref p) (upd H p (.lst vs)) :=
  t (.fl xs) hm ι _ _ (hr.new hp) (Ext.new hp) (.fl upd_same (hr.off hp) (r.mono (Ext.new hp) hr.live)) q
theorem TrQ.newC {Qm : MQ} {Q : VK} {xs : List MV} {vs : List V} (t : TrQ Y ι hm.length H Qm Q) (hr : HR Y ι hm H) (r : RepAll Y ι hm.length H xs vs) (q : Qm (.ref hm.length) (hm ++ [.lst xs])) (hp : H p = none) : Q (.ref p) (upd H p (.lst vs)) := by
  have e : Ext hm.length (hm ++ [Cell.lst xs]).length ι (snocι ι hm.length p) H (upd H p (.lst vs)) := by
    rw [List.length_append]
    exact Ext.snoc hp
  refine t (.ref hm.length) (hm ++ [.lst xs]) (snocι ι hm.length p) _ _ (hr.snoc (c := .lst xs) hp ⟨vs, upd_same, r.mono (Ext.snoc hp) hr.live⟩) e ?_ q
  have z : V.ref p = V.ref (snocι ι hm.length p hm.length) := by rw [snocι_at]
  rw [z]
  exact .ref (by rw [List.length_append]; exact Nat.lt_succ_self _)
theorem TrQ.newT {Qm : MQ} {Q : VK} {xs : List MV} {vs : List V} (t : TrQ Y ι hm.length H Qm Q) (hr : HR Y ι hm H) (r : RepAll Y ι hm.length H xs vs) (q : Qm (.tup xs) hm) (hp : H p = none) : Q (.ref p) (upd H p (.tup vs)) :=
  t (.tup xs) hm ι _ _ (hr.new hp) (Ext.new hp) (.tup upd_same (r.mono (Ext.new hp) hr.live)) q
end

def lstOf (hm : MHp) : MV → Option (List MV)
  | .fl xs => some xs
  | .sc xs => some xs
  | .ref n => match hm[n]? with
    | some (.lst xs) => some xs
    | _ => none
  | _ => none
def tupOf : MV → Option (List MV)
  | .tup xs => some xs
  | _ => none
def seqOf (hm : MHp) (v : MV) : Option (List MV) := match v with
  | .tup xs => some xs
  | v => lstOf hm v
section
variable {Y : Lay} {ι : Nat → Addr} {hm : MHp} {H : Hp} {v : MV} {x : V} {xs : List MV}
theorem lstOf_rep (K : PySem.W.Frag) (hr : HR Y ι hm H) (r : Rep Y ι hm.length H v x) (h : lstOf hm v = some xs) : ∃ a vs, x = .ref a ∧ SqL K H a vs ∧ RepAll Y ι hm.length H xs vs := by
  cases r with
  | fl e o r => cases h; exact ⟨_, _, rfl, .inl (.inl e), r⟩
  | sc e o r => cases h; exact ⟨_, _, rfl, .inl e, r⟩
  | @ref i hi =>
    unfold lstOf at h
    cases e : hm[i]? with
    | none => simp [e] at h
    | some c =>
      simp only [e] at h
      cases c with
      | lst ys =>
        cases h
        obtain ⟨vs, hv, r⟩ := hr.cell i _ e
        exact ⟨_, vs, rfl, SqL.of hv, r⟩
      | _ => cases h
  | _ => cases h
theorem tupOf_rep (K : PySem.W.Frag) (r : Rep Y ι hm.length H v x) (h : tupOf v = some xs) : ∃ a vs, x = .ref a ∧ SqT K H a vs ∧ RepAll Y ι hm.length H xs vs := by
  cases r with
  | tup e r => cases h; exact ⟨_, _, rfl, SqT.of e, r⟩
  | _ => cases h
theorem seqOf_rep (K : PySem.W.Frag) (hr : HR Y ι hm H) (r : Rep Y ι hm.length H v x) (h : seqOf hm v = some xs) : ∃ a vs, x = .ref a ∧ (SqL K H a vs ∨ SqT K H a vs) ∧ RepAll Y ι hm.length H xs vs := by
  unfold seqOf at h
  split at h
  · obtain ⟨a, vs, e, s, q⟩ := tupOf_rep K r (xs := xs) h
    exact ⟨a, vs, e, .inr s, q⟩
  · obtain ⟨a, vs, e, s, q⟩ := lstOf_rep K hr r h
    exact ⟨a, vs, e, .inl s, q⟩
end

def mVar (i : Nat) : ME := fun s h Q _ => ∃ v, s[i]? = some (some v) ∧ Q v h
def mC (v : MV) : ME := fun _ h Q _ => Q v h
def mInt (i : Int) : ME := mC (.int i)
def mBl (b : Bool) : ME := mC (.bl b)
def mNon : ME := mC .non
def mStr (x : Str) : ME := mC (.str x)
section
variable {Y : Lay} {W : WX} {X : Cx}
theorem sn_var {i : Nat} {e : Expr} (h : PE X e (tVar i)) : SE Y W X (mVar i) e := peI h fun s H Q ⟨ι, sm, hm, Qm, Em, hr, rs, ⟨v, e, q⟩, tq, _⟩ => by
  obtain ⟨x, hx, r⟩ := rs.2 i v e
  exact ⟨x, hx, tq.here hr r q⟩
theorem sv (i : Nat) {x : Str} {pos : Pos} (hN : X.N[i]? = some x := by rfl) (hv : Vis X.env.scope x := by first | exact Or.inl rfl | exact Or.inr (Or.inl rfl) | exact Or.inr (Or.inr rfl)) (hd : (x == ("__debug__" : Str)) = false := by decide)
    (hcd : (x == ("__classdict__" : Str)) = false := by decide) : SE Y W X (mVar i) (.Name x pos) := sn_var (pe_var hN hv hd hcd)
theorem sn_c {v : MV} {x : V} {e : Expr} (h : PE X e (tC x)) (hr : ∀ ι n H, Rep Y ι n H v x) : SE Y W X (mC v) e := peI h fun s H Q ⟨ι, sm, hm, Qm, Em, r, rs, q, tq, _⟩ => tq.here r (hr _ _ _) q
theorem sn_int {i j pos} : SE Y W X (mInt i) (.Constant (.int i) j pos) := sn_c pe_int fun _ _ _ => .int i
theorem sn_bl {b j pos} : SE Y W X (mBl b) (.Constant (.bool b) j pos) := sn_c pe_bl fun _ _ _ => .bl b
theorem sn_non {j pos} : SE Y W X mNon (.Constant .none j pos) := sn_c pe_non fun _ _ _ => .non
theorem sn_gint {x : Str} {i : Int} {pos : Pos} (hg : Gl X x) (hm : ∃ t, X.mg x = some (.int i t)) (hd : (x == ("__debug__" : Str)) = false := by decide) : SE Y W X (mInt i) (.Name x pos) := by
  obtain ⟨t, ht⟩ := hm
  exact sn_c (pe_glob (v := .int i) hg ht ⟨t, rfl⟩ hd) fun _ _ _ => .int i
end

def mOp2 (op : MV → MV → MHp → MQ → Prop) (a b : ME) : ME := fun s h Q E => a s h (fun v h1 => b s h1 (fun u h2 => op v u h2 Q) E) E
def mOp1 (op : MV → MHp → MQ → Prop) (a : ME) : ME := fun s h Q E => a s h (fun v h1 => op v h1 Q) E
section
variable {Y : Lay} {W : WX} {X : Cx}
theorem tM_op1 {op : MV → MHp → MQ → Prop} {a : ME} {s : L2.St} {H : Hp} {Q : VK} (h : tM Y W (mOp1 op a) s H Q) : tM Y W a s H (fun x H1 => R1M Y op x H1 Q) := by
  obtain ⟨ι, sm, hm, Qm, Em, hr, rs, q, tq, tx⟩ := h
  refine ⟨ι, sm, hm, _, Em, hr, rs, q, fun v h1 ι1 H1 x hr1 e1 r1 q1 => ?_, tx⟩
  exact ⟨ι1, h1, v, Qm, hr1, r1, q1, tq.mono e1 hr.live hr1.live⟩
theorem tM_op2 {op : MV → MV → MHp → MQ → Prop} {a b : ME} {s : L2.St} {H : Hp} {Q : VK} (h : tM Y W (mOp2 op a b) s H Q) : tM Y W a s H (fun x H1 => tM Y W b s H1 fun y H2 => R2M Y op x y H2 Q) := by
  obtain ⟨ι, sm, hm, Qm, Em, hr, rs, q, tq, tx⟩ := h
  refine ⟨ι, sm, hm, _, Em, hr, rs, q, fun v h1 ι1 H1 x hr1 e1 r1 q1 => ?_, tx⟩
  refine ⟨ι1, sm, h1, _, Em, hr1, rs.mono e1 hr.live, q1, fun u h2 ι2 H2 y hr2 e2 r2 q2 => ?_, tx.mono e1 hr.live hr1.live⟩
  exact ⟨ι2, h2, v, u, Qm, hr2, r1.mono e2 hr1.live, r2, q2, tq.mono (e1.trans e2 hr.live hr1.live) hr.live hr2.live⟩
theorem sn_bin {op : MV → MV → MHp → MQ → Prop} {o : Operator} {a b : ME} {ea eb : Expr} {pos : Pos} (ho : OpR X (binaryOp o) (R2M Y op)) (ha : SE Y W X a ea) (hb : SE Y W X b eb) : SE Y W X (mOp2 op a b) (.BinOp ea o eb pos) :=
  peI (pe_op ho ha hb) fun s H Q h => tM_op2 h
theorem sn_un {op : MV → MHp → MQ → Prop} {o : UnaryOp} {a : ME} {ea : Expr} {pos : Pos} (ho : UnR X (unaryOp o) (R1M Y op)) (ha : SE Y W X a ea) : SE Y W X (mOp1 op a) (.UnaryOp o ea pos) :=
  peI (pe_un ho ha) fun s H Q h => tM_op1 h
theorem sn_cmp {op : MV → MV → MHp → MQ → Prop} {o : CmpOp} {a b : ME} {ea eb : Expr} {pos : Pos} (ho : OpR X (compareOp o) (R2M Y op)) (ha : SE Y W X a ea) (hb : SE Y W X b eb) (hm : behindInMarks o eb = false) : SE Y W X (mOp2 op a b) (.Compare ea [o] [eb] pos) :=
  peI (pe_cmpR ho ha hb hm) fun s H Q h => tM_op2 h
theorem orI {f : Value → Value → Sem Value} {r r' : R2} (h : OpR X f r) (i : ∀ x y H Q, r' x y H Q → r x y H Q) : OpR X f r' :=
  fun pins s σ H x y v u Q I rx ry q => h pins s σ H x y v u Q I rx ry (i _ _ _ _ q)

def addM (v u : MV) (h : MHp) (Q : MQ) : Prop := match v with
  | .int i => (match u with
    | .int j => Q (.int (i + j)) h
    | _ => False)
  | .str x => (match u with
    | .str y => x.length + y.length ≤ sizeLine ∧ Q (.str (x ++ y)) h
    | _ => False)
  | .tup xs => (match u with
    | .tup ys => xs.length + ys.length ≤ sizeLine ∧ Q (.tup (xs ++ ys)) h
    | _ => False)
  | _ => False
theorem op_addM : OpR X (binaryOp .Add) (R2M Y addM) := by
  intro pins s σ H x y v' u' Q I rx ry ⟨ι, hm, v, u, Qm, hr, rv, ru, q, tq⟩
  cases rv with
  | int i =>
    cases ru with
    | int j => exact op_add pins s σ H _ _ v' u' Q I rx ry ⟨i, j, rfl, rfl, tq.here hr (.int _) q⟩
    | _ => exact q.elim
  | str a =>
    cases ru with
    | str b => exact op_add_str pins s σ H _ _ v' u' Q I rx ry ⟨a, b, rfl, rfl, q.1, tq.here hr (.str _) q.2⟩
    | _ => exact q.elim
  | @tup xs vs a ha ra =>
    cases ru with
    | @tup ys ws b hb rb =>
      obtain ⟨hl, q⟩ := q
      rw [ra.length, rb.length] at hl
      refine op_catA pins s σ H _ _ v' u' Q I rx ry ⟨a, b, vs, ws, rfl, rfl, SqT.of ha, SqT.of hb, hl, fun e => ?_, fun _ e => ?_, fun _ _ p hp => tq.newT hr (ra.append rb) q hp⟩
      · subst e
        have e2 : xs = [] := List.eq_nil_of_length_eq_zero ra.length
        subst e2
        exact tq.here hr (.tup hb rb) q
      · subst e
        have e2 : ys = [] := List.eq_nil_of_length_eq_zero rb.length
        subst e2
        rw [List.append_nil] at q
        exact tq.here hr (.tup ha ra) q
    | _ => exact q.elim
  | _ => exact q.elim
def catF (v u : MV) (h : MHp) (Q : MQ) : Prop := ∃ xs ys, lstM h v = some xs ∧ lstM h u = some ys ∧ xs.length + ys.length ≤ sizeLine ∧ Q (.fl (xs ++ ys)) h
  where lstM (h : MHp) : MV → Option (List MV)
    | .sc _ => none
    | v => lstOf h v
def catC (v u : MV) (h : MHp) (Q : MQ) : Prop := ∃ xs ys, catF.lstM h v = some xs ∧ catF.lstM h u = some ys ∧ xs.length + ys.length ≤ sizeLine ∧ Q (.ref h.length) (h ++ [.lst (xs ++ ys)])
theorem lstM_rep {ι : Nat → Addr} {hm : MHp} {H : Hp} {v : MV} {x : V} {xs : List MV} (hr : HR Y ι hm H) (r : Rep Y ι hm.length H v x) (h : catF.lstM hm v = some xs) : ∃ a vs, x = .ref a ∧ H a = some (.lst vs) ∧ RepAll Y ι hm.length H xs vs := by
  cases r with
  | fl e o r => cases h; exact ⟨_, _, rfl, e, r⟩
  | @ref i hi =>
    have h : lstOf hm (.ref i) = some xs := h
    unfold lstOf at h
    cases e : hm[i]? with
    | none => simp [e] at h
    | some c =>
      simp only [e] at h
      cases c with
      | lst ys =>
        cases h
        obtain ⟨vs, hv, r⟩ := hr.cell i _ e
        exact ⟨_, vs, rfl, hv, r⟩
      | _ => cases h
  | _ => cases h
theorem op_catFM : OpR X (binaryOp .Add) (R2M Y catF) := by
  intro pins s σ H x y v' u' Q I rx ry ⟨ι, hm, v, u, Qm, hr, rv, ru, ⟨xs, ys, e1, e2, hl, q⟩, tq⟩
  obtain ⟨a, vs, rfl, ha, ra⟩ := lstM_rep hr rv e1
  obtain ⟨b, ws, rfl, hb, rb⟩ := lstM_rep hr ru e2
  exact op_cat pins s σ H _ _ v' u' Q I rx ry ⟨a, b, vs, ws, rfl, rfl, ha, hb, by rw [← ra.length, ← rb.length]; exact hl, fun p hp => tq.newL hr (ra.append rb) q hp⟩
def int2 (C : Int → Int → Prop) (f : Int → Int → MV) (v u : MV) (h : MHp) (Q : MQ) : Prop := match v with
  | .int i => (match u with
    | .int j => C i j ∧ Q (f i j) h
    | _ => False)
  | _ => False
theorem op_int2 {f : Value → Value → Sem Value} {C : Int → Int → Prop} {g : Int → Int → V} {gm : Int → Int → MV} (h : OpR X f (rI C g)) (e : ∀ ι n H i j, Rep Y ι n H (gm i j) (g i j)) : OpR X f (R2M Y (int2 C gm)) := by
  intro pins s σ H x y v' u' Q I rx ry ⟨ι, hm, v, u, Qm, hr, rv, ru, q, tq⟩
  cases rv with
  | int i =>
    cases ru with
    | int j => exact h pins s σ H _ _ v' u' Q I rx ry ⟨i, j, rfl, rfl, q.1, tq.here hr (e _ _ _ _ _) q.2⟩
    | _ => exact q.elim
  | _ => exact q.elim
theorem rI_of_rI0 {f : Value → Value → Sem Value} {g : Int → Int → V} (h : OpR X f (rI0 g)) : OpR X f (rI (fun _ _ => True) g) :=
  orI h fun x y H Q ⟨i, j, e1, e2, _, q⟩ => ⟨i, j, e1, e2, q⟩
abbrev subM := int2 (fun _ _ => True) fun i j => .int (i - j)
theorem op_subM : OpR X (binaryOp .Sub) (R2M Y subM) := op_int2 (rI_of_rI0 op_sub) fun _ _ _ _ _ => .int _
abbrev modM := int2 (fun _ j => j ≠ 0) fun i j => .int (i.fmod j)
theorem op_modM : OpR X (binaryOp .Mod) (R2M Y modM) := op_int2 op_modN fun _ _ _ _ _ => .int _
abbrev fdivM := int2 CDivN fun i j => .int (i.fdiv j)
theorem op_fdivM : OpR X (binaryOp .FloorDiv) (R2M Y fdivM) := op_int2 op_fdivN fun _ _ _ _ _ => .int _
abbrev powM := int2 CPow fun i j => .int (i ^ j.toNat)
theorem op_powM : OpR X (binaryOp .Pow) (R2M Y powM) := op_int2 op_pow fun _ _ _ _ _ => .int _
abbrev ltM := int2 (fun _ _ => True) fun i j => .bl (decide (i < j))
theorem op_ltM : OpR X (compareOp .Lt) (R2M Y ltM) := op_int2 (rI_of_rI0 op_lt) fun _ _ _ _ _ => .bl _
abbrev leM := int2 (fun _ _ => True) fun i j => .bl (decide (i ≤ j))
theorem op_leM : OpR X (compareOp .LtE) (R2M Y leM) := op_int2 (rI_of_rI0 op_le) fun _ _ _ _ _ => .bl _
abbrev gtM := int2 (fun _ _ => True) fun i j => .bl (decide (j < i))
theorem op_gtM : OpR X (compareOp .Gt) (R2M Y gtM) := op_int2 (rI_of_rI0 op_gt) fun _ _ _ _ _ => .bl _
abbrev geM := int2 (fun _ _ => True) fun i j => .bl (decide (j ≤ i))
theorem op_geM : OpR X (compareOp .GtE) (R2M Y geM) := op_int2 (rI_of_rI0 op_ge) fun _ _ _ _ _ => .bl _
def negM (v : MV) (h : MHp) (Q : MQ) : Prop := match v with
  | .int i => Q (.int (-i)) h
  | _ => False
theorem un_negM : UnR X (unaryOp .USub) (R1M Y negM) := by
  intro pins s σ H x v' Q I rx ⟨ι, hm, v, Qm, hr, rv, q, tq⟩
  cases rv with
  | int i => exact un_neg pins s σ H _ v' Q I rx ⟨i, rfl, tq.here hr (.int _) q⟩
  | _ => exact q.elim
def notM (v : MV) (h : MHp) (Q : MQ) : Prop := match v with
  | .bl b => Q (.bl (!b)) h
  | _ => False
def isNoneM (v : MV) : Bool := match v with
  | .non => true
  | _ => false
def isM (v u : MV) (h : MHp) (Q : MQ) : Prop := match u with
  | .non => Q (.bl (isNoneM v)) h
  | _ => False
def isNotM (v u : MV) (h : MHp) (Q : MQ) : Prop := match u with
  | .non => Q (.bl (!isNoneM v)) h
  | _ => False
theorem isNone_rep {ι : Nat → Addr} {n : Nat} {H : Hp} {v : MV} {x : V} (r : Rep Y ι n H v x) : decide (x = .non) = isNoneM v := by
  cases r <;> first | rfl | exact decide_eq_false (fun z => nomatch z)
end
end Mini
namespace Mini
open PySem PySem.Spec PyProof.Rows L2

mutual
def MV.dat : MV → PyData
  | .bl b => .bool b
  | .int i => .int i
  | .str x => .str x
  | .tup xs => .tuple (datAll xs)
  | .fl xs => .list (datAll xs)
  | .sc xs => .list (datAll xs)
  | _ => .none
def datAll : List MV → List PyData
  | [] => []
  | x :: xs => x.dat :: datAll xs
end
mutual
/-- data through and through -/
def MV.sok : MV → Bool
  | .non => true
  | .bl _ => true
  | .int _ => true
  | .str x => PyData.strOk x
  | .tup xs => sokAll xs
  | .fl xs => sokAll xs
  | .sc xs => sokAll xs
  | _ => false
def sokAll : List MV → Bool
  | [] => true
  | x :: xs => x.sok && sokAll xs
end
mutual
def MV.dep : MV → Nat
  | .tup xs => depAll xs + 1
  | .fl xs => depAll xs + 1
  | .sc xs => depAll xs + 1
  | _ => 0
def depAll : List MV → Nat
  | [] => 0
  | x :: xs => max x.dep (depAll xs)
end
mutual
/-- == of trees -/
def MV.eqv : MV → MV → Bool
  | .non, u => (match u with | .non => true | _ => false)
  | .bl a, u => (match u with | .bl b => a == b | .int j => (if a then 1 else 0) == j | _ => false)
  | .int i, u => (match u with | .bl b => i == (if b then 1 else 0) | .int j => i == j | _ => false)
  | .str x, u => (match u with | .str y => x == y | _ => false)
  | .tup xs, u => (match u with | .tup ys => eqvAll xs ys | _ => false)
  | .fl xs, u => (match u with | .fl ys => eqvAll xs ys | .sc ys => eqvAll xs ys | _ => false)
  | .sc xs, u => (match u with | .fl ys => eqvAll xs ys | .sc ys => eqvAll xs ys | _ => false)
  | _, _ => false
def eqvAll : List MV → List MV → Bool
  | [], ys => ys.isEmpty
  | x :: xs, ys => (match ys with | [] => false | y :: ys => x.eqv y && eqvAll xs ys)
end
mutual
theorem eqv_dat : ∀ (v u : MV), v.sok = true → u.sok = true → v.eqv u = PyData.eqv v.dat u.dat
  | .non, u, _, hu => by cases u <;> first | rfl | (simp [MV.sok] at hu) | (simp [MV.eqv, MV.dat, PyData.eqv])
  | .bl a, u, _, hu => by cases u <;> first | rfl | (simp [MV.sok] at hu) | (simp [MV.eqv, MV.dat, PyData.eqv])
  | .int i, u, _, hu => by cases u <;> first | rfl | (simp [MV.sok] at hu) | (simp [MV.eqv, MV.dat, PyData.eqv])
  | .str x, u, _, hu => by cases u <;> first | rfl | (simp [MV.sok] at hu) | (simp [MV.eqv, MV.dat, PyData.eqv])
  | .tup xs, u, hv, hu => by
    cases u with
    | tup ys =>
      simp only [MV.sok] at hv hu
      simp only [MV.eqv, MV.dat, PyData.eqv]
      exact eqvAll_dat xs ys hv hu
    | _ => first | rfl | (simp [MV.sok] at hu) | (simp [MV.eqv, MV.dat, PyData.eqv])
  | .fl xs, u, hv, hu => by
    cases u with
    | fl ys =>
      simp only [MV.sok] at hv hu
      simp only [MV.eqv, MV.dat, PyData.eqv]
      exact eqvAll_dat xs ys hv hu
    | sc ys =>
      simp only [MV.sok] at hv hu
      simp only [MV.eqv, MV.dat, PyData.eqv]
      exact eqvAll_dat xs ys hv hu
    | _ => first | rfl | (simp [MV.sok] at hu) | (simp [MV.eqv, MV.dat, PyData.eqv])
  | .sc xs, u, hv, hu => by
    cases u with
    | fl ys =>
      simp only [MV.sok] at hv hu
      simp only [MV.eqv, MV.dat, PyData.eqv]
      exact eqvAll_dat xs ys hv hu
    | sc ys =>
      simp only [MV.sok] at hv hu
      simp only [MV.eqv, MV.dat, PyData.eqv]
      exact eqvAll_dat xs ys hv hu
    | _ => first | rfl | (simp [MV.sok] at hu) | (simp [MV.eqv, MV.dat, PyData.eqv])
  | .fd _ _, _, hv, _ => by simp [MV.sok] at hv
  | .fs _, _, hv, _ => by simp [MV.sok] at hv
  | .fi _ _, _, hv, _ => by simp [MV.sok] at hv
  | .ex _ _, _, hv, _ => by simp [MV.sok] at hv
  | .ref _, _, hv, _ => by simp [MV.sok] at hv
theorem eqvAll_dat : ∀ (xs ys : List MV), sokAll xs = true → sokAll ys = true → eqvAll xs ys = PyData.eqvAll (datAll xs) (datAll ys)
  | [], [], _, _ => by simp [eqvAll, datAll, PyData.eqvAll]
  | [], _ :: _, _, _ => by simp [eqvAll, datAll, PyData.eqvAll]
  | _ :: _, [], _, _ => by simp [eqvAll, datAll, PyData.eqvAll]
  | x :: xs, y :: ys, hv, hu => by
    simp only [sokAll, Bool.and_eq_true] at hv hu
    simp only [eqvAll, datAll, PyData.eqvAll]
    rw [eqv_dat x y hv.1 hu.1, eqvAll_dat xs ys hv.2 hu.2]
end
mutual
theorem lay_dat : ∀ v : MV, v.sok = true → v.dat.canLay0 = true ∧ v.dat.depth = v.dep
  | .non, _ => ⟨by simp [MV.dat, PyData.canLay0], by simp [MV.dat, PyData.depth, MV.dep]⟩
  | .bl _, _ => ⟨by simp [MV.dat, PyData.canLay0], by simp [MV.dat, PyData.depth, MV.dep]⟩
  | .int _, _ => ⟨by simp [MV.dat, PyData.canLay0], by simp [MV.dat, PyData.depth, MV.dep]⟩
  | .str x, h => ⟨by simpa [MV.dat, PyData.canLay0, MV.sok] using h, by simp [MV.dat, PyData.depth, MV.dep]⟩
  | .tup xs, h => by
    have q := layAll_dat xs (by simpa [MV.sok] using h)
    exact ⟨by simpa [MV.dat, PyData.canLay0] using q.1, by simp [MV.dat, PyData.depth, MV.dep, q.2]⟩
  | .fl xs, h => by
    have q := layAll_dat xs (by simpa [MV.sok] using h)
    exact ⟨by simpa [MV.dat, PyData.canLay0] using q.1, by simp [MV.dat, PyData.depth, MV.dep, q.2]⟩
  | .sc xs, h => by
    have q := layAll_dat xs (by simpa [MV.sok] using h)
    exact ⟨by simpa [MV.dat, PyData.canLay0] using q.1, by simp [MV.dat, PyData.depth, MV.dep, q.2]⟩
  | .fd _ _, h => by simp [MV.sok] at h
  | .fs _, h => by simp [MV.sok] at h
  | .fi _ _, h => by simp [MV.sok] at h
  | .ex _ _, h => by simp [MV.sok] at h
  | .ref _, h => by simp [MV.sok] at h
theorem layAll_dat : ∀ xs : List MV, sokAll xs = true → PyData.canLayAll0 (datAll xs) = true ∧ PyData.depthAll (datAll xs) = depAll xs
  | [], _ => ⟨by simp [datAll, PyData.canLayAll0], by simp [datAll, PyData.depthAll, depAll]⟩
  | x :: xs, h => by
    simp only [sokAll, Bool.and_eq_true] at h
    have q1 := lay_dat x h.1
    have q2 := layAll_dat xs h.2
    exact ⟨by simp [datAll, PyData.canLayAll0, q1.1, q2.1], by simp [datAll, PyData.depthAll, depAll, q1.2, q2.2]⟩
end
def MV.ok (v : MV) : Bool := v.sok && decide (v.dep ≤ 60)
theorem shaped_ok {v : MV} (h : v.ok = true) : SeqAt.shaped v.dat = true := by
  unfold MV.ok at h
  simp only [Bool.and_eq_true, decide_eq_true_eq] at h
  have q := lay_dat v h.1
  unfold SeqAt.shaped
  rw [q.1, q.2]
  simp
  omega
mutual
theorem dp_of (K : PySem.W.Frag) {Y : Lay} {ι : Nat → Addr} {n : Nat} {H : Hp} : ∀ {v : MV} {x : V}, Rep Y ι n H v x → v.sok = true → Dp K H x v.dat
  | _, _, .non, _ => .non
  | _, _, .bl b, _ => .bl b
  | _, _, .int i, _ => .int i
  | _, _, .str x, _ => .str x
  | _, _, .tup e r, h => by
    simp only [MV.sok] at h
    simp only [MV.dat]
    exact .tup (SqT.of e) (dpAll_of K r h)
  | _, _, .fl e _ r, h => by
    simp only [MV.sok] at h
    simp only [MV.dat]
    exact .lst (SqL.of e) (dpAll_of K r h)
  | _, _, .sc e _ r, h => by
    simp only [MV.sok] at h
    simp only [MV.dat]
    exact .lst (.inl e) (dpAll_of K r h)
  | _, _, .fd .., h => by simp [MV.sok] at h
  | _, _, .fs .., h => by simp [MV.sok] at h
  | _, _, .fi .., h => by simp [MV.sok] at h
  | _, _, .ex0 .., h => by simp [MV.sok] at h
  | _, _, .ex1 .., h => by simp [MV.sok] at h
  | _, _, .ref .., h => by simp [MV.sok] at h
theorem dpAll_of (K : PySem.W.Frag) {Y : Lay} {ι : Nat → Addr} {n : Nat} {H : Hp} : ∀ {v : List MV} {x : List V}, RepAll Y ι n H v x → sokAll v = true → DpAll K H x (datAll v)
  | _, _, .nil, _ => by
    simp only [datAll]
    exact .nil
  | _, _, .cons r t, h => by
    simp only [sokAll, Bool.and_eq_true] at h
    simp only [datAll]
    exact .cons (dp_of K r h.1) (dpAll_of K t h.2)
end
def der (h : MHp) (v : MV) : MV := match v with
  | .ref n => (match h[n]? with
    | some (.lst xs) => .fl xs
    | _ => v)
  | v => v
theorem der_dp (K : PySem.W.Frag) {Y : Lay} {ι : Nat → Addr} {hm : MHp} {H : Hp} {v : MV} {x : V} (hr : HR Y ι hm H) (r : Rep Y ι hm.length H v x) (h : (der hm v).sok = true) : Dp K H x (der hm v).dat := by
  cases r with
  | @ref i hi =>
    unfold der at h ⊢
    cases e : hm[i]? with
    | none => simp [e, MV.sok] at h
    | some c =>
      simp only [e] at h ⊢
      cases c with
      | lst ys =>
        obtain ⟨vs, hv, r⟩ := hr.cell i _ e
        simp only [MV.sok] at h
        simp only [MV.dat]
        exact .lst (SqL.of hv) (dpAll_of K r h)
      | _ => simp [MV.sok] at h
  | non => exact .non
  | bl b => exact .bl b
  | int i => exact .int i
  | str x => exact .str x
  | tup e r => exact dp_of K (.tup e r) h
  | fl e o r => exact dp_of K (.fl e o r) h
  | sc e o r => exact dp_of K (.sc e o r) h
  | _ => simp [der, MV.sok] at h

def eqM (v u : MV) (h : MHp) (Q : MQ) : Prop := (∃ x y, v = .str x ∧ u = .str y ∧ Q (.bl (x == y)) h) ∨ ((der h v).ok = true ∧ (der h u).ok = true ∧ Q (.bl ((der h v).eqv (der h u))) h)
def neM (v u : MV) (h : MHp) (Q : MQ) : Prop := (∃ x y, v = .str x ∧ u = .str y ∧ Q (.bl (!(x == y))) h) ∨ ((der h v).ok = true ∧ (der h u).ok = true ∧ Q (.bl (!(der h v).eqv (der h u))) h)
theorem sok_ok {v : MV} (h : v.ok = true) : v.sok = true := by
  unfold MV.ok at h
  simp only [Bool.and_eq_true] at h
  exact h.1
section
variable {Y : Lay} {W : WX} {X : Cx}
theorem op_eqM (hu : X.A.units + 64 < cLine) : OpR X (compareOp .Eq) (R2M Y eqM) := by
  intro pins s σ H x y v' u' Q I rx ry ⟨ι, hm, v, u, Qm, hr, rv, ru, q, tq⟩
  rcases q with ⟨a, b, rfl, rfl, q⟩ | ⟨h1, h2, q⟩
  · cases rv
    cases ru
    exact op_eq pins s σ H _ _ v' u' Q I rx ry ⟨rfl, by rw [dec_str]; exact tq.here hr (.bl _) q⟩
  refine op_eqD hu pins s σ H x y v' u' Q I rx ry ⟨_, _, der_dp X.K hr rv (sok_ok h1), der_dp X.K hr ru (sok_ok h2), shaped_ok h1, shaped_ok h2, ?_⟩
  rw [← eqv_dat _ _ (sok_ok h1) (sok_ok h2)]
  exact tq.here hr (.bl _) q
theorem op_neM (hu : X.A.units + 64 < cLine) : OpR X (compareOp .NotEq) (R2M Y neM) := by
  intro pins s σ H x y v' u' Q I rx ry ⟨ι, hm, v, u, Qm, hr, rv, ru, q, tq⟩
  rcases q with ⟨a, b, rfl, rfl, q⟩ | ⟨h1, h2, q⟩
  · cases rv
    cases ru
    exact op_ne pins s σ H _ _ v' u' Q I rx ry ⟨rfl, by rw [dec_str]; exact tq.here hr (.bl _) q⟩
  refine op_neD hu pins s σ H x y v' u' Q I rx ry ⟨_, _, der_dp X.K hr rv (sok_ok h1), der_dp X.K hr ru (sok_ok h2), shaped_ok h1, shaped_ok h2, ?_⟩
  rw [← eqv_dat _ _ (sok_ok h1) (sok_ok h2)]
  exact tq.here hr (.bl _) q

theorem any_dat {v : MV} (hv : v.sok = true) : ∀ xs : List MV, sokAll xs = true → (datAll xs).any (fun z => PyData.eqv z v.dat) = xs.any fun z => z.eqv v
  | [], _ => by simp [datAll]
  | x :: xs, h => by
    simp only [sokAll, Bool.and_eq_true] at h
    simp only [datAll, List.any_cons]
    rw [any_dat hv xs h.2, eqv_dat x v h.1 hv]
def inSeqM (v u : MV) (h : MHp) (Q : MQ) : Prop := ∃ xs, seqOf h u = some xs ∧ sokAll xs = true ∧ depAll xs ≤ 59 ∧ (der h v).ok = true ∧ Q (.bl (xs.any fun z => z.eqv (der h v))) h
def notInSeqM (v u : MV) (h : MHp) (Q : MQ) : Prop := ∃ xs, seqOf h u = some xs ∧ sokAll xs = true ∧ depAll xs ≤ 59 ∧ (der h v).ok = true ∧ Q (.bl (!xs.any fun z => z.eqv (der h v))) h
theorem inSeq_reads {ι : Nat → Addr} {hm : MHp} {H : Hp} {u : MV} {y : V} {uv : Value} {xs : List MV} {pins : List (Addr × Obj)} {s : Shared} {σ : L2.St} (I : Inv X pins σ H s) (hr : HR Y ι hm H) (r : Rep Y ι hm.length H u y) (ry : RelV y uv) (h : seqOf hm u = some xs) (hs : sokAll xs = true) :
    (∃ as, Reads s.heap uv (.list (datAll xs)) as) ∨ ∃ as, Reads s.heap uv (.tuple (datAll xs)) as := by
  obtain ⟨a, vs, rfl, e, ra⟩ := seqOf_rep X.K hr r h
  rcases e with e | e
  · exact .inl (Dp.reads I _ _ _ (.lst e (dpAll_of X.K ra hs)) ry)
  · exact .inr (Dp.reads I _ _ _ (.tup e (dpAll_of X.K ra hs)) ry)
theorem op_inSeqM (hu : X.A.units + 65 < cLine) : OpR X (compareOp .In) (R2M Y inSeqM) := by
  intro pins s σ H x y v' u' Q I rx ry ⟨ι, hm, v, u, Qm, hr, rv, ru, ⟨xs, e, hs, hd, hv, q⟩, tq⟩
  obtain ⟨bs, r1⟩ := Dp.reads I _ x v' (der_dp X.K hr rv (sok_ok hv)) rx
  have hq : EP X pins σ Q (.bool ((datAll xs).any fun z => PyData.eqv z (der hm v).dat)) s := by
    rw [any_dat (sok_ok hv) xs hs]
    exact ⟨.bl _, H, I, rfl, tq.here hr (.bl _) q⟩
  rcases inSeq_reads I hr ru ry e hs with ⟨as, r2⟩ | ⟨as, r2⟩
  · exact SeqAt.in_list_reads r2 r1 (layAll_dat xs hs).1 (lay_dat _ (sok_ok hv)).1 (room_in_shaped (shaped_ok hv) hu) hq
  · exact SeqAt.in_tuple_reads r2 r1 (layAll_dat xs hs).1 (lay_dat _ (sok_ok hv)).1 (room_in_shaped (shaped_ok hv) hu) hq
theorem op_notInSeqM (hu : X.A.units + 65 < cLine) : OpR X (compareOp .NotIn) (R2M Y notInSeqM) := by
  intro pins s σ H x y v' u' Q I rx ry ⟨ι, hm, v, u, Qm, hr, rv, ru, ⟨xs, e, hs, hd, hv, q⟩, tq⟩
  obtain ⟨bs, r1⟩ := Dp.reads I _ x v' (der_dp X.K hr rv (sok_ok hv)) rx
  have hq : EP X pins σ Q (.bool (!(datAll xs).any fun z => PyData.eqv z (der hm v).dat)) s := by
    rw [any_dat (sok_ok hv) xs hs]
    exact ⟨.bl _, H, I, rfl, tq.here hr (.bl _) q⟩
  rcases inSeq_reads I hr ru ry e hs with ⟨as, r2⟩ | ⟨as, r2⟩
  · exact SeqAt.notIn_list_reads r2 r1 (layAll_dat xs hs).1 (lay_dat _ (sok_ok hv)).1 (room_in_shaped (shaped_ok hv) hu) hq
  · exact SeqAt.notIn_tuple_reads r2 r1 (layAll_dat xs hs).1 (lay_dat _ (sok_ok hv)).1 (room_in_shaped (shaped_ok hv) hu) hq
end

end Mini
namespace Mini
open PySem PySem.Spec PyProof.Rows L2

def tV (a : ME) : MT := fun s h Q E => a s h (fun v h' => ∃ b, v = .bl b ∧ Q b h') E
def tNo (t : MT) : MT := fun s h Q E => t s h (fun b h' => Q (!b) h') E
def tAn (t u : MT) : MT := fun s h Q E => t s h (fun b h' => if b = true then u s h' Q E else Q false h') E
def tOr (t u : MT) : MT := fun s h Q E => t s h (fun b h' => if b = true then Q true h' else u s h' Q E) E
abbrev SW (Y : Lay) (W : WX) (X : Cx) (m : MT) (e : Expr) : Prop := PW X e (tMT Y W m)
def mAnd (a b : ME) : ME := fun s h Q E => a s h (fun v h1 => ∃ c, v = .bl c ∧ if c = true then b s h1 Q E else Q (.bl false) h1) E
def mOr (a b : ME) : ME := fun s h Q E => a s h (fun v h1 => ∃ c, v = .bl c ∧ if c = true then Q (.bl true) h1 else b s h1 Q E) E
def mNot (a : ME) : ME := mOp1 notM a
def mIfE (t : MT) (a b : ME) : ME := fun s h Q E => t s h (fun c h1 => if c = true then a s h1 Q E else b s h1 Q E) E
section
variable {Y : Lay} {W : WX} {X : Cx} {a b : ME} {t u : MT} {ea eb : Expr} {rest : List Expr} {pos : Pos}
theorem tMT_val {s : L2.St} {H : Hp} {Q : Bool → Hp → Prop} (h : tMT Y W (tV a) s H Q) : tM Y W a s H (fun x H1 => ∃ c, x = .bl c ∧ Q c H1) := by
  obtain ⟨ι, sm, hm, Qm, Em, hr, rs, q, tq, tx⟩ := h
  refine ⟨ι, sm, hm, _, Em, hr, rs, q, fun v h1 ι1 H1 x hr1 e1 r1 ⟨c, e, q1⟩ => ?_, tx⟩
  subst e
  cases r1
  exact ⟨c, rfl, tq _ _ _ _ hr1 e1 q1⟩
theorem st_val (ha : SE Y W X a ea) (he : ∀ whole, isTrue ea X.env whole = (do let v ← whole; standAt ea.pos; holding [v] (truthy v)) := by intro _; rfl) : ST Y W X (tV a) ea :=
  ptI (pt_val ha he) fun s H Q h => tMT_val h
theorem st_cmp {op : MV → MV → MHp → MQ → Prop} {o : CmpOp} (ho : OpR X (compareOp o) (R2M Y op)) (ha : SE Y W X a ea) (hb : SE Y W X b eb) (hm : behindInMarks o eb = false) : ST Y W X (tV (mOp2 op a b)) (.Compare ea [o] [eb] pos) :=
  ptI (pt_cmpR ho ha hb hm) fun s H Q h => tM_op2 (tMT_val h)
theorem st_not (ha : ST Y W X t ea) : ST Y W X (tNo t) (.UnaryOp .Not ea pos) :=
  ptI (pt_not ha) fun s H Q ⟨ι, sm, hm, Qm, Em, hr, rs, q, tq, tx⟩ => ⟨ι, sm, hm, _, Em, hr, rs, q, fun c h1 ι1 H1 hr1 e1 q1 => tq _ _ _ _ hr1 e1 q1, tx⟩
theorem sw_st (h : SW Y W X t ea) : ST Y W X t ea := h.pt
theorem sw_and1 (ha : ST Y W X t ea) : SW Y W X t (.BoolOp .And [ea] pos) := pw_and1 ha
theorem sw_or1 (ha : ST Y W X t ea) : SW Y W X t (.BoolOp .Or [ea] pos) := pw_or1 ha
theorem sw_and (ha : ST Y W X t ea) (hb : SW Y W X u (.BoolOp .And (eb :: rest) pos)) : SW Y W X (tAn t u) (.BoolOp .And (ea :: eb :: rest) pos) :=
  pwI (pw_and ha hb) fun s H Q ⟨ι, sm, hm, Qm, Em, hr, rs, q, tq, tx⟩ => by
    refine ⟨ι, sm, hm, _, Em, hr, rs, q, fun c h1 ι1 H1 hr1 e1 q1 => ?_, tx⟩
    cases c with
    | true => exact iteT ⟨ι1, sm, h1, Qm, Em, hr1, rs.mono e1 hr.live, q1, tq.mono e1 hr.live hr1.live, tx.mono e1 hr.live hr1.live⟩
    | false => exact iteF (tq _ _ _ _ hr1 e1 q1)
theorem sw_or (ha : ST Y W X t ea) (hb : SW Y W X u (.BoolOp .Or (eb :: rest) pos)) : SW Y W X (tOr t u) (.BoolOp .Or (ea :: eb :: rest) pos) :=
  pwI (pw_or ha hb) fun s H Q ⟨ι, sm, hm, Qm, Em, hr, rs, q, tq, tx⟩ => by
    refine ⟨ι, sm, hm, _, Em, hr, rs, q, fun c h1 ι1 H1 hr1 e1 q1 => ?_, tx⟩
    cases c with
    | true => exact iteT (tq _ _ _ _ hr1 e1 q1)
    | false => exact iteF ⟨ι1, sm, h1, Qm, Em, hr1, rs.mono e1 hr.live, q1, tq.mono e1 hr.live hr1.live, tx.mono e1 hr.live hr1.live⟩
theorem sn_one {op} (ha : SE Y W X a ea) : SE Y W X a (.BoolOp op [ea] pos) := pe_one ha
theorem sn_and (ha : SE Y W X a ea) (hb : SE Y W X b (.BoolOp .And (eb :: rest) pos)) : SE Y W X (mAnd a b) (.BoolOp .And (ea :: eb :: rest) pos) :=
  peI (pe_and ha hb) fun s H Q ⟨ι, sm, hm, Qm, Em, hr, rs, q, tq, tx⟩ => by
    refine ⟨ι, sm, hm, _, Em, hr, rs, q, fun v h1 ι1 H1 x hr1 e1 r1 ⟨c, e, q1⟩ => ?_, tx⟩
    subst e
    cases r1
    refine ⟨c, rfl, ?_⟩
    cases c with
    | true => exact iteT ⟨ι1, sm, h1, Qm, Em, hr1, rs.mono e1 hr.live, q1, tq.mono e1 hr.live hr1.live, tx.mono e1 hr.live hr1.live⟩
    | false => exact iteF ((tq.mono e1 hr.live hr1.live).here hr1 (.bl false) q1)
theorem sn_not (ha : SE Y W X a ea) : SE Y W X (mNot a) (.UnaryOp .Not ea pos) :=
  peI (pe_not ha) fun s H Q h => by
    obtain ⟨ι, sm, hm, Qm, Em, hr, rs, q, tq, tx⟩ := h
    refine ⟨ι, sm, hm, _, Em, hr, rs, q, fun v h1 ι1 H1 x hr1 e1 r1 q1 => ?_, tx⟩
    cases r1 with
    | bl c => exact ⟨c, rfl, (tq.mono e1 hr.live hr1.live).here hr1 (.bl _) q1⟩
    | _ => exact q1.elim
theorem sn_ifE {ec : Expr} (hc : ST Y W X t ec) (ha : SE Y W X a ea) (hb : SE Y W X b eb) : SE Y W X (mIfE t a b) (.IfExp ec ea eb pos) :=
  peI (pe_ifExp hc ha hb) fun s H Q ⟨ι, sm, hm, Qm, Em, hr, rs, q, tq, tx⟩ => by
    refine ⟨ι, sm, hm, _, Em, hr, rs, q, fun c h1 ι1 H1 hr1 e1 q1 => ?_, tx⟩
    cases c with
    | true => exact iteT ⟨ι1, sm, h1, Qm, Em, hr1, rs.mono e1 hr.live, q1, tq.mono e1 hr.live hr1.live, tx.mono e1 hr.live hr1.live⟩
    | false => exact iteF ⟨ι1, sm, h1, Qm, Em, hr1, rs.mono e1 hr.live, q1, tq.mono e1 hr.live hr1.live, tx.mono e1 hr.live hr1.live⟩
end

def aNil : MA := fun _ h Q _ => Q [] h
def aCons (a : ME) (r : MA) : MA := fun s h Q E => a s h (fun v h1 => r s h1 (fun vs h2 => Q (v :: vs) h2) E) E
def mTup (r : MA) : ME := fun s h Q E => r s h (fun vs h1 => vs.length ≤ sizeLine ∧ Q (.tup vs) h1) E
def mLst (r : MA) : ME := fun s h Q E => r s h (fun vs h1 => vs.length ≤ sizeLine ∧ Q (.fl vs) h1) E
def mLstC (r : MA) : ME := fun s h Q E => r s h (fun vs h1 => vs.length ≤ sizeLine ∧ Q (.ref h1.length) (h1 ++ [.lst vs])) E
section
variable {Y : Lay} {W : WX} {X : Cx} {a : ME} {r : MA} {e : Expr} {es : List Expr} {pos : Pos}
theorem sa_nil : SA Y W X aNil [] := paI pa_nil fun s H Q ⟨ι, sm, hm, Qm, Em, hr, rs, q, tq, tx⟩ => tq _ _ _ _ _ hr .refl .nil q
theorem sa_cons (ha : SE Y W X a e) (hr : SA Y W X r es) (hs : starEach (e :: es) X.env = (false, eval e X.env) :: starEach es X.env := by rfl) : SA Y W X (aCons a r) (e :: es) :=
  paI (pa_cons ha hr hs) fun s H Q ⟨ι, sm, hm, Qm, Em, hr, rs, q, tq, tx⟩ => by
    refine ⟨ι, sm, hm, _, Em, hr, rs, q, fun v h1 ι1 H1 x hr1 e1 r1 q1 => ?_, tx⟩
    refine ⟨ι1, sm, h1, _, Em, hr1, rs.mono e1 hr.live, q1, fun vs h2 ι2 H2 xs hr2 e2 r2 q2 => ?_, tx.mono e1 hr.live hr1.live⟩
    exact tq _ _ _ _ _ hr2 (e1.trans e2 hr.live hr1.live) (.cons (r1.mono e2 hr1.live) r2) q2
theorem sn_tup {x1} (h : SA Y W X r es) : SE Y W X (mTup r) (.Tuple es x1 pos) :=
  peI (pe_tup h) fun s H Q ⟨ι, sm, hm, Qm, Em, hr, rs, q, tq, tx⟩ => by
    refine ⟨ι, sm, hm, _, Em, hr, rs, q, fun vs h1 ι1 H1 xs hr1 e1 r1 q1 => ⟨by rw [← r1.length]; exact q1.1, fun p hp => ?_⟩, tx⟩
    exact (tq.mono e1 hr.live hr1.live).newT hr1 r1 q1.2 hp
theorem sn_lst (h : SA Y W X r es) : SE Y W X (mLst r) (.List es pos) :=
  peI (pe_lst h) fun s H Q ⟨ι, sm, hm, Qm, Em, hr, rs, q, tq, tx⟩ => by
    refine ⟨ι, sm, hm, _, Em, hr, rs, q, fun vs h1 ι1 H1 xs hr1 e1 r1 q1 => ⟨by rw [← r1.length]; exact q1.1, fun p hp => ?_⟩, tx⟩
    exact (tq.mono e1 hr.live hr1.live).newL hr1 r1 q1.2 hp
theorem sn_lstC (h : SA Y W X r es) : SE Y W X (mLstC r) (.List es pos) :=
  peI (pe_lst h) fun s H Q ⟨ι, sm, hm, Qm, Em, hr, rs, q, tq, tx⟩ => by
    refine ⟨ι, sm, hm, _, Em, hr, rs, q, fun vs h1 ι1 H1 xs hr1 e1 r1 q1 => ⟨by rw [← r1.length]; exact q1.1, fun p hp => ?_⟩, tx⟩
    exact (tq.mono e1 hr.live hr1.live).newC hr1 r1 q1.2 hp
end

def mNext : MS := fun s h D => D.nx s h
def mSeq (a b : MS) : MS := fun s h D => a s h { D with nx := fun s' h' => b s' h' D }
def mDrop (a : ME) : MS := fun s h D => a s h (fun _ h' => D.nx s h') (fun e h' => D.ex e s h')
def mRet (a : ME) : MS := fun s h D => a s h D.rt (fun e h' => D.ex e s h')
def mRetN : MS := fun _ h D => D.rt .non h
def mIf (t : MT) (a b : MS) : MS := fun s h D => t s h (fun c h' => if c = true then a s h' D else b s h' D) (fun e h' => D.ex e s h')
def mBrk : MS := fun s h D => D.bk s h
def mCnt : MS := fun s h D => D.ct s h
def mNo : MS := fun _ _ _ => False
section
variable {Y : Lay} {W : WX} {X : Cx} {a : ME} {t : MT} {m m2 : MS} {e : Expr} {st : Stmt} {rest : List Stmt} {pos : Pos}
variable {ι : Nat → Addr} {n : Nat} {H : Hp} {Dm : MD} {D : Ends} {s : L2.St} {sm : MSt}
theorem TrY.ex (t : TrY Y ι n H Dm.ex W) (l : Live ι n H) (rs : RS Y ι n H sm s) : TrX Y ι n H s (fun e h' => Dm.ex e sm h') W :=
  fun e h' ι' H' cls d hr ex rx q => t e sm h' ι' H' s cls d hr ex (rs.mono ex l) rx q
theorem TrN.here {Qm : MSt → MHp → Prop} {Q : L2.St → Hp → Prop} {hm : MHp} (t : TrN Y ι hm.length H Qm Q) (hr : HR Y ι hm H) (rs : RS Y ι hm.length H sm s) (q : Qm sm hm) : Q s H := t _ _ _ _ _ hr .refl rs q
theorem ss_nil : SSs Y W X mNext [] := pssI pss_nil fun D s H ⟨ι, sm, hm, Dm, hr, rs, q, td⟩ => td.nx.here hr rs q
theorem ss_cons (h1 : SS Y W X m st) (h2 : SSs Y W X m2 rest) : SSs Y W X (mSeq m m2) (st :: rest) :=
  pssI (pss_cons h1 h2) fun D s H ⟨ι, sm, hm, Dm, hr, rs, q, td⟩ => by
    refine ⟨ι, sm, hm, _, hr, rs, q, ⟨fun sm' h' ι' H' s' hr' ex rs' q' => ?_, td.rt, td.bk, td.ct, td.ex⟩⟩
    exact ⟨ι', sm', h', Dm, hr', rs', q', td.mono ex hr.live hr'.live⟩
theorem ss_one (h1 : SS Y W X m st) : SSs Y W X m [st] := pss_one h1
theorem ss_expr (ha : SE Y W X a e) (hs : swapsWith e none pos.line X.env = pure false := by rfl) : SS Y W X (mDrop a) (.Expr e pos) :=
  psI (ps_expr ha hs) fun D s H ⟨ι, sm, hm, Dm, hr, rs, q, td⟩ => by
    refine ⟨ι, sm, hm, _, _, hr, rs, q, fun v h1 ι1 H1 x hr1 e1 r1 q1 => ?_, td.ex.ex hr.live rs⟩
    exact td.nx _ _ _ _ _ hr1 e1 (rs.mono e1 hr.live) q1
theorem ss_ret (ha : SE Y W X a e) : SS Y W X (mRet a) (.Return (some e) pos) :=
  psI (ps_ret ha) fun D s H ⟨ι, sm, hm, Dm, hr, rs, q, td⟩ => ⟨ι, sm, hm, _, _, hr, rs, q, td.rt, td.ex.ex hr.live rs⟩
theorem ss_no : SS Y W X mNo st := ⟨fun _ _ _ _ _ _ ⟨_, _, _, _, _, _, q, _⟩ => q.elim⟩
theorem ss_if {c : Expr} {sa sb : List Stmt} (hc : ST Y W X t c) (ha : SSs Y W X m sa) (hb : SSs Y W X m2 sb) : SS Y W X (mIf t m m2) (.If c sa sb pos) :=
  psI (ps_if hc ha hb) fun D s H ⟨ι, sm, hm, Dm, hr, rs, q, td⟩ => by
    refine ⟨ι, sm, hm, _, _, hr, rs, q, fun c h1 ι1 H1 hr1 e1 q1 => ?_, td.ex.ex hr.live rs⟩
    cases c with
    | true => exact iteT ⟨ι1, sm, h1, Dm, hr1, rs.mono e1 hr.live, q1, td.mono e1 hr.live hr1.live⟩
    | false => exact iteF ⟨ι1, sm, h1, Dm, hr1, rs.mono e1 hr.live, q1, td.mono e1 hr.live hr1.live⟩
end

abbrev MG := MV → MSt → MHp → (MSt → MHp → Prop) → MQ → Prop
abbrev MGs := List MV → MSt → MHp → (MSt → MHp → Prop) → MQ → Prop
def tMG (Y : Lay) (W : WX) (g : MG) : TG := fun x s H Q => ∃ ι sm hm v Qm Em, HR Y ι hm H ∧ RS Y ι hm.length H sm s ∧ Rep Y ι hm.length H v x ∧ g v sm hm Qm Em ∧ TrN Y ι hm.length H Qm Q ∧ TrX Y ι hm.length H s Em W
def tMGs (Y : Lay) (W : WX) (g : MGs) : TGs := fun xs s H Q => ∃ ι sm hm vs Qm Em, HR Y ι hm H ∧ RS Y ι hm.length H sm s ∧ RepAll Y ι hm.length H vs xs ∧ g vs sm hm Qm Em ∧ TrN Y ι hm.length H Qm Q ∧ TrX Y ι hm.length H s Em W
abbrev SG (Y : Lay) (W : WX) (X : Cx) (g : MG) (tg : Expr) : Prop := PG X tg (tMG Y W g)
abbrev SGs (Y : Lay) (W : WX) (X : Cx) (g : MGs) (tgs : List Expr) : Prop := PGs X tgs (tMGs Y W g)
def gN (i : Nat) : MG := fun v s h Q _ => Q (s.set i (some v)) h
def gsNil : MGs := fun vs s h Q _ => vs = [] ∧ Q s h
def gsCons (g : MG) (r : MGs) : MGs := fun vs s h Q E => ∃ v vs', vs = v :: vs' ∧ g v s h (fun s' h' => r vs' s' h' Q fun _ _ => False) E
def gT (r : MGs) (n : Nat) : MG := fun v s h Q E => ∃ vs, v = .tup vs ∧ vs.length = n ∧ r vs s h Q E
theorem psgI {X : Cx} {tg : Expr} {t t' : TG} (h : PG X tg t) (i : ∀ x s H Q, t' x s H Q → t x s H Q) : PG X tg t' := ⟨fun pins s σ H v u Q I r q => h.run pins s σ H v u Q I r (i _ _ _ _ q)⟩
theorem psgsI {X : Cx} {tg : List Expr} {t t' : TGs} (h : PGs X tg t) (i : ∀ x s H Q, t' x s H Q → t x s H Q) : PGs X tg t' := ⟨fun pins s σ H v u Q I r q => h.run pins s σ H v u Q I r (i _ _ _ _ q)⟩
section
variable {Y : Lay} {W : WX} {X : Cx} {g : MG} {gs : MGs} {e : Expr} {es : List Expr} {pos : Pos}
theorem sg_name {i : Nat} {x : Str} (hN : X.N.Nodup) (hi : X.N[i]? = some x := by rfl) (hx : Loc X.env.scope x := by first | exact Or.inl rfl | exact Or.inr rfl) (hf : X.fn x = true ∨ X.env.scope.names.lookup x = some .local := by first | exact .inl rfl | exact .inr rfl | assumption) : SG Y W X (gN i) (.Name x pos) :=
  psgI (pg_name hN hi hx hf) fun x s H Q ⟨ι, sm, hm, v, Qm, Em, hr, rs, r, q, tq, tx⟩ => tq _ _ _ _ _ hr .refl (rs.set i r) q
theorem sgs_nil : SGs Y W X gsNil [] := psgsI pgs_nil fun xs s H Q ⟨ι, sm, hm, vs, Qm, Em, hr, rs, r, ⟨e, q⟩, tq, tx⟩ => by
  subst e
  cases r
  exact ⟨rfl, tq _ _ _ _ _ hr .refl rs q⟩
theorem sgs_cons (h1 : SG Y W X g e) (h2 : SGs Y W X gs es) (hs : (assignEach (e :: es) X.env).map (·.2) = assign e X.env :: (assignEach es X.env).map (·.2) := by rfl) : SGs Y W X (gsCons g gs) (e :: es) := psgsI (pgs_cons h1 h2 hs) fun xs s H Q ⟨ι, sm, hm, vs, Qm, Em, hr, rs, r, ⟨v, vs', ev, q⟩, tq, tx⟩ => by
  subst ev
  cases r with
  | cons r1 r2 =>
    refine ⟨_, _, rfl, ι, sm, hm, v, _, Em, hr, rs, r1, q, fun sm' h' ι' H' s' hr' ex rs' q' => ?_, tx⟩
    exact ⟨ι', sm', h', vs', Qm, _, hr', rs', r2.mono ex hr.live, q', tq.mono ex hr.live hr'.live, fun _ _ _ _ _ _ _ _ _ z => z.elim⟩
end
theorem sg_tup {Y : Lay} {W : WX} {X : Cx} {gs : MGs} {es : List Expr} {k : Nat} {n : Nat} {pos : Pos} (hc : X.calm = true) (h : SGs Y W X gs es) (hn : (assignEach es X.env).length = n := by rfl) (hst : (assignEach es X.env).findIdx? (·.1) = none := by rfl) : SG Y W X (gT gs n) (.Tuple es k pos) :=
  psgI (pg_tup hc h hn hst) fun x s H Q ⟨ι, sm, hm, v, Qm, Em, hr, rs, r, ⟨vs, ev, hl, q⟩, tq, tx⟩ => by
    subst ev
    cases r with
    | tup e ra => exact ⟨_, _, rfl, SqT.of e, by rw [← ra.length]; exact hl, ι, sm, hm, vs, Qm, Em, hr, rs, ra, q, tq, tx⟩

def mAsg (a : ME) (g : MG) : MS := fun s h D => a s h (fun v h1 => g v s h1 D.nx fun e h' => D.ex e s h') (fun e h' => D.ex e s h')
section
variable {Y : Lay} {W : WX} {X : Cx} {g : MG} {a : ME} {e tg : Expr} {pos : Pos}
theorem tM_asg {D : Ends} {s : L2.St} {H : Hp} (h : tMS Y W (mAsg a g) D s H) : tM Y W a s H (fun x H1 => tMG Y W g x s H1 D.nx) := by
  obtain ⟨ι, sm, hm, Dm, hr, rs, q, td⟩ := h
  refine ⟨ι, sm, hm, _, _, hr, rs, q, fun v h1 ι1 H1 x hr1 e1 r1 q1 => ?_, td.ex.ex hr.live rs⟩
  exact ⟨ι1, sm, h1, v, _, _, hr1, rs.mono e1 hr.live, r1, q1, td.nx.mono e1 hr.live hr1.live, (td.ex.ex hr.live rs).mono e1 hr.live hr1.live⟩
theorem ss_asg (ha : SE Y W X a e) (hg : SG Y W X g tg) (hs : swapsWithSole [tg] e pos.line X.env = pure false := by rfl) (hw : swappedStores [tg] e X.env = pure none := by rfl) (h1 : (assignEach [tg] X.env).map (·.2) = [assign tg X.env] := by rfl) : SS Y W X (mAsg a g) (.Assign [tg] e pos) :=
  psI (ps_asg ha hg hs hw h1) fun D s H h => tM_asg h
theorem ss_set {i : Nat} {x : Str} {pos' : Pos} (hN : X.N.Nodup) (ha : SE Y W X a e) (hi : X.N[i]? = some x := by rfl) (hx : Loc X.env.scope x := by first | exact Or.inl rfl | exact Or.inr rfl) (hs : swapsWith e (some (.Name x pos')) pos.line X.env = pure false := by rfl) (hf : X.fn x = true ∨ X.env.scope.names.lookup x = some .local := by first | exact .inl rfl | exact .inr rfl | assumption) :
    SS Y W X (mAsg a (gN i)) (.Assign [.Name x pos'] e pos) :=
  psI (ps_set hN hi hx ha hs hf) fun D s H h => by
    obtain ⟨ι, sm, hm, Dm, hr, rs, q, td⟩ := h
    refine ⟨ι, sm, hm, _, _, hr, rs, q, fun v h1 ι1 H1 x hr1 e1 r1 q1 => ?_, td.ex.ex hr.live rs⟩
    exact td.nx _ _ _ _ _ hr1 e1 ((rs.mono e1 hr.live).set i r1) q1
end

def whileN (t : MT) (b : MS) : Nat → MS
  | 0 => fun _ _ _ => False
  | n + 1 => fun s h D => t s h (fun c h1 => if c = true then b s h1 { D with nx := fun s' h' => whileN t b n s' h' D, ct := fun s' h' => whileN t b n s' h' D, bk := D.nx } else D.nx s h1) (fun e h' => D.ex e s h')
def mWhile (t : MT) (b : MS) : MS := fun s h D => ∃ n, whileN t b n s h D
theorem ss_while {Y : Lay} {W : WX} {X : Cx} {t : MT} {b : MS} {c : Expr} {body : List Stmt} {pos : Pos} (hp : PassesOwn (model X.prog X.w) X.A X.env X.xe) (hc : ST Y W X t c) (hb : SSs Y W X b body) : SS Y W X (mWhile t b) (.While c body [] pos) :=
  psI (ps_while hp hc hb) fun D s H ⟨ι, sm, hm, Dm, hr, rs, ⟨n, q⟩, td⟩ => by
    refine ⟨fun k s' H' => ∃ ι sm hm Dm, HR Y ι hm H' ∧ RS Y ι hm.length H' sm s' ∧ whileN t b k sm hm Dm ∧ TrD Y W ι hm.length H' Dm D, ⟨n, ι, sm, hm, Dm, hr, rs, q, td⟩, ?_⟩
    rintro k s1 H1 ⟨ι1, sm1, hm1, Dm1, hr1, rs1, q1, td1⟩
    cases k with
    | zero => exact q1.elim
    | succ k =>
      refine ⟨ι1, sm1, hm1, _, _, hr1, rs1, q1, fun c h2 ι2 H2 hr2 e2 q2 => ?_, td1.ex.ex hr1.live rs1⟩
      cases c with
      | false => exact iteF (td1.nx _ _ _ _ _ hr2 e2 (rs1.mono e2 hr1.live) q2)
      | true =>
        refine iteT ⟨fun s' H' => ∃ ι sm hm Dm, HR Y ι hm H' ∧ RS Y ι hm.length H' sm s' ∧ whileN t b k sm hm Dm ∧ TrD Y W ι hm.length H' Dm D, fun s' H' z => ⟨k, Nat.lt_succ_self _, z⟩, ι2, sm1, h2, _, hr2, rs1.mono e2 hr1.live, q2, ?_⟩
        have td2 := td1.mono e2 hr1.live hr2.live
        exact ⟨fun sm' h' ι' H' s' hr' ex rs' q' => ⟨ι', sm', h', Dm1, hr', rs', q', td2.mono ex hr2.live hr'.live⟩, td2.rt, td2.nx, fun sm' h' ι' H' s' hr' ex rs' q' => ⟨ι', sm', h', Dm1, hr', rs', q', td2.mono ex hr2.live hr'.live⟩, td2.ex⟩

abbrev MR := List MV → (MHp → Prop) → MHp → Prop
abbrev MI := MSt → MHp → MR → MQ → Prop
def JRel (Y : Lay) (ι : Nat → Addr) (n : Nat) (H : Hp) (J : It) (xs : List MV) (ok : MHp → Prop) : Prop :=
  ∀ (q : Addr → Prop), (∀ a, q a → Y.hid a ∨ H a = none) → ∀ ι' hm' H', HR (Y.re q) ι' hm' H' → Ext n hm'.length ι ι' H H' → ok hm' → ∀ i : Nat, (xs[i]? = none → J.stop i H') ∧
    ∀ v, xs[i]? = some v → J.go i H' ∧ ∀ x H2, J.yld i H' x H2 → HR (Y.re q) ι' hm' H2 ∧ Ext hm'.length hm'.length ι' ι' H' H2 ∧ Rep (Y.re q) ι' hm'.length H2 v x
def tMI (Y : Lay) (W : WX) (m : MI) : TI := fun s H R => ∃ ι sm hm Rm Em, HR Y ι hm H ∧ RS Y ι hm.length H sm s ∧ m sm hm Rm Em ∧ TrX Y ι hm.length H s Em W ∧
  ∀ xs ok h1 ι1 H1 J, HR Y ι1 h1 H1 → Ext hm.length h1.length ι ι1 H H1 → JRel Y ι1 h1.length H1 J xs ok → Rm xs ok h1 → R J H1
abbrev SI (Y : Lay) (W : WX) (X : Cx) (m : MI) (tg iter : Expr) : Prop := PI X tg iter (tMI Y W m)
def forM (ok : MHp → Prop) (g : MG) (b : MS) : List MV → MS
  | [] => fun s h D => ok h ∧ D.nx s h
  | x :: xs => fun s h D => ok h ∧ g x s h (fun s1 h1 => b s1 h1 { D with nx := fun s2 h2 => forM ok g b xs s2 h2 D, ct := fun s2 h2 => forM ok g b xs s2 h2 D, bk := D.nx }) (fun e h' => D.ex e s h')
def mFor (m : MI) (g : MG) (b : MS) : MS := fun s h D => m s h (fun xs ok h1 => forM ok g b xs s h1 D) (fun e h' => D.ex e s h')
theorem ss_for {Y : Lay} {W : WX} {X : Cx} {m : MI} {g : MG} {b : MS} {tg iter : Expr} {body : List Stmt} {pos : Pos} (hp : PassesOwn (model X.prog X.w) X.A X.env X.xe) (hc : X.calm = true) (hi : SI Y W X m tg iter) (hg : SG Y W X g tg) (hb : SSs Y W X b body)
    (hs : ∀ x, foldedSetIterable iter X.env x = pure x := by intro _; rfl) : SS Y W X (mFor m g b) (.For tg iter body [] pos) :=
  psI (ps_for hp hc hi hg hb hs) fun D s H ⟨ι, sm, hm, Dm, hr, rs, q, td⟩ => by
    refine ⟨ι, sm, hm, _, _, hr, rs, q, td.ex.ex hr.live rs, fun xs ok h1 ι1 H1 J hr1 e1 jr q1 => ?_⟩
    refine ⟨fun i k s' H' => ∃ ι' sm' hm' Dm', HR Y ι' hm' H' ∧ RS Y ι' hm'.length H' sm' s' ∧ forM ok g b (xs.drop i) sm' hm' Dm' ∧ TrD Y W ι' hm'.length H' Dm' D ∧ Ext h1.length hm'.length ι1 ι' H1 H' ∧ k = xs.length - i ∧ i ≤ xs.length,
      ⟨_, ι1, sm, h1, Dm, hr1, rs.mono e1 hr.live, q1, td.mono e1 hr.live hr1.live, .refl, rfl, Nat.zero_le _⟩, ?_⟩
    rintro i k s2 H2 ⟨ι2, sm2, hm2, Dm2, hr2, rs2, q2, td2, e2, rfl, hi2⟩
    cases e : xs[i]? with
    | none =>
      have hd : xs.drop i = [] := List.drop_eq_nil_of_le (List.getElem?_eq_none_iff.mp e)
      rw [hd] at q2
      exact .inl ⟨((jr Y.hid (fun _ z => .inl z) ι2 hm2 H2 hr2 e2 q2.1) i).1 e, td2.nx.here hr2 rs2 q2.2⟩
    | some v =>
      obtain ⟨hlt, ev⟩ := List.getElem?_eq_some_iff.mp e
      have hd : xs.drop i = v :: xs.drop (i + 1) := by rw [List.drop_eq_getElem_cons hlt, ev]
      rw [hd] at q2
      obtain ⟨go, y⟩ := ((jr Y.hid (fun _ z => .inl z) ι2 hm2 H2 hr2 e2 q2.1) i).2 v e
      refine .inr ⟨go, fun s' H' => ∃ ι' sm' hm' Dm', HR Y ι' hm' H' ∧ RS Y ι' hm'.length H' sm' s' ∧ forM ok g b (xs.drop (i + 1)) sm' hm' Dm' ∧ TrD Y W ι' hm'.length H' Dm' D ∧ Ext h1.length hm'.length ι1 ι' H1 H', fun s' H' ⟨ι', sm', hm', Dm', a1, a2, a3, a4, a5⟩ => ⟨_, by omega, ι', sm', hm', Dm', a1, a2, a3, a4, a5, rfl, hlt⟩, fun x H3 yl => ?_⟩
      obtain ⟨hr3, e3, r3⟩ := y x H3 yl
      have td3 := td2.mono e3 hr2.live hr3.live
      refine ⟨ι2, sm2, hm2, v, _, _, hr3, rs2.mono e3 hr2.live, r3, q2.2, fun sm' h' ι' H' s' hr' ex rs' q' => ?_, td3.ex.ex hr3.live (rs2.mono e3 hr2.live)⟩
      have td4 := td3.mono ex hr3.live hr'.live
      have nxt : TrN Y ι' h'.length H' (fun s2 h2 => forM ok g b (xs.drop (i + 1)) s2 h2 Dm2) (fun s' H' => ∃ ι' sm' hm' Dm', HR Y ι' hm' H' ∧ RS Y ι' hm'.length H' sm' s' ∧ forM ok g b (xs.drop (i + 1)) sm' hm' Dm' ∧ TrD Y W ι' hm'.length H' Dm' D ∧ Ext h1.length hm'.length ι1 ι' H1 H') :=
        fun sm5 h5 ι5 H5 s5 hr5 ex5 rs5 q5 => ⟨ι5, sm5, h5, Dm2, hr5, rs5, q5, td4.mono ex5 hr'.live hr5.live, ((e2.trans e3 hr1.live hr2.live).trans ex hr1.live hr3.live).trans ex5 hr1.live hr'.live⟩
      exact ⟨ι', sm', h', _, hr', rs', q', ⟨nxt, td4.rt, td4.nx, nxt, td4.ex⟩⟩
end Mini
namespace Mini
open PySem PySem.Spec PyProof.Rows L2
theorem piI {X : Cx} {tg iter : Expr} {t t' : TI} (h : PI X tg iter t) (i : ∀ s H R, t' s H R → t s H R) : PI X tg iter t' := ⟨fun pins s σ H R I q => h.run pins s σ H R I (i _ _ _ q)⟩

def iSeq (a : ME) : MI := fun s h R E => a s h (fun v h1 => match v with
  | .tup xs => R xs (fun _ => True) h1
  | v => ∃ xs, lstOf h1 v = some xs ∧ R xs (fun h' => lstOf h' v = some xs) h1) E
def iAny (K : PySem.W.Frag) (tl : TE) : TI := fun s H R => tl s H fun x H1 => ∃ a, x = .ref a ∧ (((∃ xs, SqL K H1 a xs) ∧ R (Itl K a) H1) ∨ ((∃ xs, SqT K H1 a xs) ∧ R (Itt K a) H1))
theorem pi_any {X : Cx} {tg l : Expr} {tl : TE} (hl : PE X l tl) : PI X tg l (iAny X.K tl) := by
  refine ⟨fun pins s σ H R I h => ?_⟩
  refine thn (hl.run pins s σ H _ I h) fun v s1 ⟨x, H1, I1, r1, a, e, q1⟩ => ?_
  subst e
  obtain rfl : v = Value.ref a := r1
  have fp : ∀ b ∈ [s1.heap.objs.size], FpOk X pins H1 b := fun b hb => by
    obtain rfl : b = s1.heap.objs.size := by simpa using hb
    exact I1.fpOk (Nat.le_refl _) (I1.hok.fresh (Nat.le_refl _))
  rcases q1 with ⟨⟨xs, hq⟩, q⟩ | ⟨⟨xs, hq⟩, q⟩
  · obtain ⟨its, _, p, _⟩ := I1.list hq
    exact wpAny_pyIter_list p.isList ⟨_, _, _, _, H1, rfl, I1.kept (t' := s1.toks) fun b o e => Heap.get?_push_of_some _ e, turn_list a _, ⟨_, Heap.get?_push_size _ rfl, rfl, rfl⟩, fp, q⟩
  · obtain ⟨its, _, p, _⟩ := I1.tuple hq
    exact wpAny_pyIter_tuple (show s1.heap.IsTuple a its.toArray from p) ⟨_, _, _, _, H1, rfl, I1.kept (t' := s1.toks) fun b o e => Heap.get?_push_of_some _ e, turn_tuple a _, ⟨_, Heap.get?_push_size _ rfl, rfl, rfl⟩, fp, q⟩
section
variable {Y : Lay} {ι : Nat → Addr} {n : Nat} {H : Hp} {K : PySem.W.Frag} {a : Addr} {xs : List MV}
theorem jrel_list {hm : MHp} {v : MV} (hr : HR Y ι hm H) (r : Rep Y ι hm.length H v (.ref a)) : JRel Y ι hm.length H (Itl K a) xs (fun h' => lstOf h' v = some xs) := by
  intro qh hs0 ι' hm' H' hr' ex ok i
  obtain ⟨b, vs, eb, hs, ra⟩ := lstOf_rep K hr' ((r.rehid hs0).mono ex hr.live) ok
  cases eb
  refine ⟨fun e => ⟨vs, hs, by rw [← ra.length]; exact List.getElem?_eq_none_iff.mp e⟩, fun v e => ?_⟩
  obtain ⟨y, hy, ry⟩ := ra.get e
  refine ⟨⟨vs, y, hs, hy⟩, fun x H2 ⟨e2, hx⟩ => ?_⟩
  subst e2
  have ex := hx vs hs
  rw [hy] at ex
  cases ex
  exact ⟨hr', .refl, ry⟩
theorem jrel_tup {hm : MHp} {vs : List V} (hr : HR Y ι hm H) (ha : H a = some (.tup vs)) (r : RepAll Y ι hm.length H xs vs) : JRel Y ι hm.length H (Itt K a) xs (fun _ => True) := by
  intro qh hs0 ι' hm' H' hr' ex _ i
  have ra := (r.rehid hs0).mono ex hr.live
  have hs : SqT K H' a vs := SqT.of (ex.imm hr.live ha rfl)
  refine ⟨fun e => ⟨vs, hs, by rw [← ra.length]; exact List.getElem?_eq_none_iff.mp e⟩, fun v e => ?_⟩
  obtain ⟨y, hy, ry⟩ := ra.get e
  refine ⟨⟨vs, y, hs, hy⟩, fun x H2 ⟨e2, hx⟩ => ?_⟩
  subst e2
  have ex := hx vs hs
  rw [hy] at ex
  cases ex
  exact ⟨hr', .refl, ry⟩
end
theorem si_seq {Y : Lay} {W : WX} {X : Cx} {a : ME} {tg e : Expr} (ha : SE Y W X a e) : SI Y W X (iSeq a) tg e :=
  piI (pi_any ha) fun s H R ⟨ι, sm, hm, Rm, Em, hr, rs, q, tx, tr⟩ => by
    refine ⟨ι, sm, hm, _, Em, hr, rs, q, fun v h1 ι1 H1 x hr1 e1 r1 q1 => ?_, tx⟩
    have go : ∀ (v : MV) (xs : List MV), Rep Y ι1 h1.length H1 v x → lstOf h1 v = some xs → Rm xs (fun h' => lstOf h' v = some xs) h1 → ∃ a, x = .ref a ∧ (((∃ xs, SqL X.K H1 a xs) ∧ R (Itl X.K a) H1) ∨ ((∃ xs, SqT X.K H1 a xs) ∧ R (Itt X.K a) H1)) := by
      intro v xs r e q
      obtain ⟨b, vs, eb, hs, ra⟩ := lstOf_rep X.K hr1 r e
      subst eb
      exact ⟨b, rfl, .inl ⟨⟨vs, hs⟩, tr _ _ _ _ _ _ hr1 e1 (jrel_list hr1 r) q⟩⟩
    cases r1 with
    | @tup xs vs a ea ra => exact ⟨a, rfl, .inr ⟨⟨vs, SqT.of ea⟩, tr _ _ _ _ _ _ hr1 e1 (jrel_tup hr1 ea ra) q1⟩⟩
    | fl ea o ra => obtain ⟨xs, e, q⟩ := q1; exact go _ xs (.fl ea o ra) e q
    | sc ea o ra => obtain ⟨xs, e, q⟩ := q1; exact go _ xs (.sc ea o ra) e q
    | ref hi => obtain ⟨xs, e, q⟩ := q1; exact go _ xs (.ref hi) e q
    | _ => obtain ⟨xs, e, q⟩ := q1; cases e

def rng (lo hi : Int) : List MV := (List.range (hi - lo).toNat).map fun i : Nat => .int (lo + i)
def iRng1 (r : MA) : MI := fun s h R E => r s h (fun vs h1 => match vs with
  | [.int j] => j < 2 ^ 62 ∧ -(2 ^ 62) ≤ j ∧ R (rng 0 j) (fun _ => True) h1
  | _ => False) E
def iRng2 (r : MA) : MI := fun s h R E => r s h (fun vs h1 => match vs with
  | [.int i, .int j] => (i < 2 ^ 62 ∧ -(2 ^ 62) ≤ i) ∧ (j < 2 ^ 62 ∧ -(2 ^ 62) ≤ j) ∧ R (rng i j) (fun _ => True) h1
  | _ => False) E
theorem jrel_rng {Y : Lay} {ι : Nat → Addr} {n : Nat} {H : Hp} {lo hi : Int} {k : Nat} (hk : k = (hi - lo).toNat) : JRel Y ι n H (Itr lo k) (rng lo hi) (fun _ => True) := by
  subst hk
  intro qh hs0 ι' hm' H' hr' ex _ i
  refine ⟨fun e => ?_, fun v e => ?_⟩
  · have := List.getElem?_eq_none_iff.mp e
    unfold rng at this
    rw [List.length_map, List.length_range] at this
    exact this
  · unfold rng at e
    rw [List.getElem?_map] at e
    obtain ⟨j, hj, ev⟩ := Option.map_eq_some_iff.mp e
    obtain ⟨hl, ej⟩ := List.getElem?_eq_some_iff.mp hj
    rw [List.length_range] at hl
    rw [List.getElem_range] at ej
    subst ej
    have hl2 := hl
    refine ⟨hl2, fun x H2 ⟨e2, ez⟩ => ?_⟩
    subst e2 ez
    subst ev
    exact ⟨hr', .refl, .int _⟩
theorem si_rng1 {Y : Lay} {W : WX} {X : Cx} {r : MA} {tg a : Expr} {p pos : Pos} (hg : Gl X "range") (hm : X.mg "range" = none) (ha : SA Y W X r [a]) (hs : starEach [a] X.env = [(false, eval a X.env)] := by rfl) : SI Y W X (iRng1 r) tg (.Call (.Name "range" p) [a] [] pos) :=
  piI (pi_range1 hg hm ha hs) fun s H R ⟨ι, sm, hm, Rm, Em, hr, rs, q, tx, tr⟩ => by
    refine ⟨ι, sm, hm, _, Em, hr, rs, q, fun vs h1 ι1 H1 xs hr1 e1 r1 q1 => ?_, tx⟩
    cases r1 with
    | nil => exact q1.elim
    | cons ra rb =>
      cases rb with
      | nil =>
        cases ra with
        | int j => exact ⟨j, rfl, q1.2.1, q1.1, tr _ _ _ _ _ _ hr1 e1 (jrel_rng (by simp)) q1.2.2⟩
        | _ => exact q1.elim
      | cons rc rd => cases ra <;> exact q1.elim
def ItE (K : PySem.W.Frag) (a : Addr) : It :=
  ⟨fun i H => ∃ (xs : List V) (x : V), SqT K H a xs ∧ xs[i]? = some x, fun i H v H' => ∃ T x, v = .ref T ∧ H T = none ∧ H' = upd H T (.tup [.int (i : Nat), x]) ∧ ∀ xs, SqT K H a xs → xs[i]? = some x, fun i H => ∃ xs : List V, SqT K H a xs ∧ xs.length ≤ i⟩
theorem turn_enumT {P : Program} {w : World} {K : PySem.W.Frag} {elts : List Expr} {kk : Nat} {tpos : Pos} (a e it : Addr) (hae : a ≠ it) (hea : e ≠ a) :
    Turn P w K (.Tuple elts kk tpos) (ItE K a) [e, it] e (fun i h => (∃ old, IsEnum h e it ((i : Nat) : Int) old) ∧ h.IsTupleIter it a i ∧ e ≠ it) where
  mem := by simp
  obj := fun i h st b hb => by
    obtain ⟨⟨old, he⟩, ⟨o, ho, hc, hd⟩, _⟩ := st
    rcases (show b = e ∨ b = it by simpa using hb) with z | z
    · exact z ▸ ⟨_, he, fun v q => nomatch q⟩
    · exact z ▸ ⟨o, ho, fun v q => by rw [hd] at q; cases q⟩
  keep := fun i h h' ⟨⟨old, he⟩, hi, hne⟩ k => ⟨⟨old, k e (by simp) _ he⟩, hi.at fun o q => k it (by simp) o q, hne⟩
  item := by
    intro X hP hw hK hc i pins s σ H E I hf st hg
    subst hP hw hK
    obtain ⟨⟨old, he⟩, hit, hne⟩ := st
    obtain ⟨xs, x, hq, hx⟩ := hg
    obtain ⟨its, rv, p, _⟩ := I.tuple hq
    obtain ⟨u, hu, ru⟩ := rv.get hx
    have hlt : i < its.toArray.size := by
      have := (List.getElem?_eq_some_iff.mp hu).1
      simpa using this
    have hel : e < s.heap.objs.size := Heap.lt_size he
    have hil : it < s.heap.objs.size := by obtain ⟨_, q, _⟩ := hit; exact Heap.lt_size q
    refine wpAny_pyNext_enum_itemD (Draws.tuple (A := X.A.in1) (show X.A.in1.handled = none from I.ok.hd hc) it a hae its.toArray) he (show s.heap.IsTupleIter it a i ∧ s.heap.IsTuple a its.toArray from ⟨hit, p⟩) hlt hne (by simp [hne, hea]) fun y h' tk hy ho hs hT hsz hk => ?_
    obtain ⟨hit', _⟩ := hs
    have ey : y = u := by
      have hy2 : its.toArray[i]? = some y := hy
      have hu2 : its.toArray[i]? = some u := by simpa using hu
      rw [hu2] at hy2
      exact (Option.some.inj hy2).symm
    subst ey
    refine ⟨_, rfl, wpAny_letOwnedTupleGo_enum (s := { s with heap := h', toks := tk + 1 }) ho fun h'' he' sb => ?_⟩
    have hT2 : h''.get? s.heap.objs.size = some { cls := .type "tuple", data := .seq #[.int i tk, y] } := (sb.2 _ (Nat.ne_of_gt hel)).trans hT
    have new : ObjOk X.prog X.w (upd H s.heap.objs.size (.tup [.int (i : Nat), x])) h'' s.heap.objs.size (.tup [.int (i : Nat), x]) :=
      ⟨by show 2 ≤ sizeLine; decide, [.int i tk, y], .cons ⟨_, rfl⟩ (.cons ru .nil), ⟨_, hT2, rfl, _, rfl⟩⟩
    have I1 : Inv X pins σ (upd H s.heap.objs.size (.tup [.int (i : Nat), x])) { s with heap := h'', toks := tk + 1 } :=
      I.turnedNew (ch := [e, it]) (fun b ob hb q => (sb.2 b (fun z => hb (by simp [z]))).trans (hk b ob (fun z => hb (by simp [z])) (fun z => hb (by simp [z])) q)) hf (Nat.le_refl _) new
    refine ⟨.ref s.heap.objs.size, _, I1, rfl, ⟨_, x, rfl, I.hok.fresh (Nat.le_refl _), rfl, fun ys hy => by rw [I.tuple_inj hy hq]; exact hx⟩, ⟨⟨y, ?_⟩, hit'.at fun o q => (sb.2 it (Ne.symm hne)).trans q, hne⟩, fun b hb => ?_⟩
    · rw [show ((i + 1 : Nat) : Int) = (i : Int) + 1 by omega]
      exact he'
    · have hb' : b < s.heap.objs.size := by
        rcases (show b = e ∨ b = it by simpa using hb) with z | z
        · exact z ▸ hel
        · exact z ▸ hil
      rw [upd_ne (Nat.ne_of_lt hb')]
      exact (hf b hb).1
  done := by
    intro X hP hw hK hc i pins s σ H E I hf st hg
    subst hP hw hK
    obtain ⟨⟨old, he⟩, hit, hne⟩ := st
    obtain ⟨xs, hq, hx⟩ := hg
    obtain ⟨its, rv, p, _⟩ := I.tuple hq
    obtain ⟨f0, f1, f2, f3, f4, f5⟩ := hf it (by simp)
    have hl := rv.length
    have hn : its.toArray[i]? = none := by simp; omega
    have D : Draws X.prog X.w X.A.in1 it [it, a] 0 (fun _ _ => True) (fun j h => h.IsTupleIter it a (i + j) ∧ h.IsTuple a its.toArray) := {
      live := fun _ _ ⟨⟨o, ho, _⟩, _⟩ => ⟨o, ho⟩
      frame := fun _ _ _ st hk => ⟨st.1.at fun o e => hk it (by simp) o e, st.2.at fun o e => hk a (by simp) o e⟩
      item := fun j s Q E hj => absurd hj (Nat.not_lt_zero _)
      done := fun s Q E st hE => wpAny_nextOf_tuple_end (show X.A.in1.handled = none from I.ok.hd hc) st.1 st.2 hn hE }
    exact wpAny_pyNext_enum_endD D he (show s.heap.IsTupleIter it a (i + 0) ∧ s.heap.IsTuple a its.toArray from ⟨hit, p⟩) fun h' eb => ⟨rfl, I.turned (t' := s.toks) (fun b o hb q => eb b o hb q) f0 f1 f3 f4 f5⟩
  self := fun A i s Q E ⟨⟨_, he⟩, _⟩ h => wpAny_pyIter_enum he h
theorem meets_enum_tup (l : Addr) (items : Array Value) (n : Nat) (dct : Option Addr) (sl : Array (Option Value)) :
    Meets (Builtin.«enumerate.__new__» ⟨[.type "enumerate", .ref l], []⟩) (fun _ R s => s.heap.get? l = some { cls := .type "tuple", dict := dct, data := .seq items n, slots := sl } ∧
      R (.ok (.ret (.ref (s.heap.push { cls := .type "tuple_iterator", data := .fields #[.ref l, .int 0 0] }).objs.size)))
        { s with heap := (s.heap.push { cls := .type "tuple_iterator", data := .fields #[.ref l, .int 0 0] }).push { cls := .type "enumerate", data := .fields #[.none, .bool false, .ref s.heap.objs.size, rawInt 0, .none, .none] } }) :=
  .of_wp fun prog w A R s ⟨hl, h⟩ => by
    obtain ⟨hp, g, d, tk, os⟩ := s
    have hsub := sub_enumerate
    have hL : Heap.IsTuple (Shared.heap ⟨hp, g, d, tk, os⟩) l items := ⟨_, hl, rfl, n, rfl⟩
    wp_walk using AutoSeq1.wpAny_loadPart' hl
    refine wpAny_stack_any fun st => wpAny_pure ?_
    split
    · rename_i c _ _ _ _ _
      cases (c == Value.type "enumerate")
      · wp_walk using AutoSeq1.wpAny_loadPart' hl, wpAny_pyIter_tuple hL
        exact ⟨_, rfl, h⟩
      · wp_walk using AutoSeq1.wpAny_loadPart' hl, wpAny_pyIter_tuple hL
        exact ⟨_, rfl, h⟩
    · wp_walk using AutoSeq1.wpAny_loadPart' hl, wpAny_pyIter_tuple hL
      exact ⟨_, rfl, h⟩
theorem call_enum_tup {prog : Program} {w : World} {A : Around} {E : Value → Shared → Prop} {s : Shared} {l : Addr} {items : Array Value} {Q : Value → Shared → Prop} (hL : s.heap.IsTuple l items)
    (h : ∀ h', IsEnum h' (s.heap.objs.size + 1) s.heap.objs.size 0 .none → h'.IsTupleIter s.heap.objs.size l 0 → h'.objs.size = s.heap.objs.size + 2 →
      (∀ b o, s.heap.get? b = some o → h'.get? b = some o) → Q (.ref (s.heap.objs.size + 1)) { s with heap := h' }) :
    wpAny (model prog w) A (call (.type "enumerate") [.ref l]) Q E s := by
  obtain ⟨⟨c, dct, dt, sl⟩, hl, hc, n, hd⟩ := hL
  obtain rfl : c = .type "tuple" := hc
  obtain rfl : dt = .seq items n := hd
  refine callType_new F.called_enumerate (by decide) (F.typeCall_enumerate_1 _) (F.newCall_enumerate_1 _) (fun obj => F.args_object_init_2 obj _) F.entry_enumerate_new
    (meets_enum_tup l items n dct sl) ⟨hl, ?_⟩
  have hz : (s.heap.push { cls := .type "tuple_iterator", data := .fields #[.ref l, .int 0 0] }).objs.size = s.heap.objs.size + 1 := Heap.size_push ..
  show _ ∧ _
  rw [hz]
  have he : IsEnum ((s.heap.push { cls := .type "tuple_iterator", data := .fields #[.ref l, .int 0 0] }).push
      { cls := .type "enumerate", data := .fields #[.none, .bool false, .ref s.heap.objs.size, rawInt 0, .none, .none] }) (s.heap.objs.size + 1) s.heap.objs.size 0 .none := by
    have := Heap.get?_push_size (s.heap.push { cls := .type "tuple_iterator", data := .fields #[.ref l, .int 0 0] })
      (o := { cls := .type "enumerate", data := .fields #[.none, .bool false, .ref s.heap.objs.size, rawInt 0, .none, .none] }) rfl
    rwa [hz] at this
  refine ⟨⟨_, he, rfl⟩, h _ he ⟨_, Heap.get?_push_of_some _ (Heap.get?_push_size _ rfl), rfl, rfl⟩ (by rw [Heap.size_push, hz]) fun b o x => Heap.get?_push_of_some _ (Heap.get?_push_of_some _ x)⟩
def iEnA (K : PySem.W.Frag) (ta : TA) : TI := fun σ H R => ta σ H fun vs H1 => ∃ a, vs = [.ref a] ∧ (((∃ xs, SqL K H1 a xs) ∧ R (Ite K a) H1) ∨ ((∃ xs, SqT K H1 a xs) ∧ R (ItE K a) H1))
theorem pi_enA {X : Cx} {e : Expr} {ta : TA} {p pos tpos : Pos} {elts : List Expr} {kk : Nat} (hg : Gl X "enumerate") (hm : X.mg "enumerate" = none) (ha : PA X [e] ta) (hs : starEach [e] X.env = [(false, eval e X.env)] := by rfl) :
    PI X (.Tuple elts kk tpos) (.Call (.Name "enumerate" p) [e] [] pos) (iEnA X.K ta) := by
  refine ⟨fun pins s σ H R I h => ?_⟩
  refine Call_ (ld_blt I hg hm boot_enumerate (PyProof.Rows.callWith_type1 (thn (ha.run pos pins s σ H _ I h) fun us s1 ⟨vs, H1, I1, r1, a, ex, q1⟩ => ?_) hs rfl))
  subst ex
  cases r1 with
  | cons r rr =>
    cases rr
    obtain rfl := r
    have fp : ∀ b ∈ [s1.heap.objs.size + 1, s1.heap.objs.size], FpOk X pins H1 b := fun b hb => by
      have hle : s1.heap.objs.size ≤ b := by
        rcases (show b = s1.heap.objs.size + 1 ∨ b = s1.heap.objs.size by simpa using hb) with z | z
        · exact z ▸ Nat.le_succ _
        · exact z ▸ Nat.le_refl _
      exact I1.fpOk hle (I1.hok.fresh hle)
    rcases q1 with ⟨⟨xs, hq⟩, q⟩ | ⟨⟨xs, hq⟩, q⟩
    · obtain ⟨its, rv, p', _⟩ := I1.list hq
      refine call_enumerate_list p'.isList fun h' he hit hsz hk => wpAny_pyIter_enum he ?_
      exact ⟨_, _, _, _, H1, rfl, I1.kept (t' := s1.toks) hk, turn_enum a _ s1.heap.objs.size, ⟨⟨.none, he⟩, hit, Nat.succ_ne_self _⟩, fp, q⟩
    · obtain ⟨its, rv, p', _⟩ := I1.tuple hq
      have hlt := p'.lt
      refine call_enum_tup (show s1.heap.IsTuple a its.toArray from p') fun h' he hit hsz hk => wpAny_pyIter_enum he ?_
      exact ⟨_, _, _, _, H1, rfl, I1.kept (t' := s1.toks) hk, turn_enumT a _ s1.heap.objs.size (Nat.ne_of_lt hlt) (Nat.ne_of_gt (Nat.lt_succ_of_lt hlt)), ⟨⟨.none, he⟩, hit, Nat.succ_ne_self _⟩, fp, q⟩
def enumL (xs : List MV) : List MV := xs.zipIdx.map fun p => .tup [.int (p.2 : Nat), p.1]
def iEnum (r : MA) : MI := fun s h R E => r s h (fun vs h1 => match vs with
  | [.tup xs] => R (enumL xs) (fun _ => True) h1
  | [v] => ∃ xs, lstOf h1 v = some xs ∧ R (enumL xs) (fun h' => lstOf h' v = some xs) h1
  | _ => False) E
section
variable {Y : Lay} {ι : Nat → Addr} {n : Nat} {H : Hp} {K : PySem.W.Frag} {a b : Addr} {xs ys : List MV}
theorem pair_rep {hm : MHp} {v u : MV} {x y : V} {T : Addr} (hr : HR Y ι hm H) (r : Rep Y ι hm.length H v x) (q : Rep Y ι hm.length H u y) (hT : H T = none) :
    HR Y ι hm (upd H T (.tup [x, y])) ∧ Ext hm.length hm.length ι ι H (upd H T (.tup [x, y])) ∧ Rep Y ι hm.length (upd H T (.tup [x, y])) (.tup [v, u]) (.ref T) :=
  ⟨hr.new hT, Ext.new hT, .tup upd_same (.cons (r.mono (Ext.new hT) hr.live) (.cons (q.mono (Ext.new hT) hr.live) .nil))⟩
theorem enumL_get {xs : List MV} {i : Nat} : (enumL xs)[i]? = xs[i]?.map fun x => .tup [.int (i : Nat), x] := by
  unfold enumL
  rw [List.getElem?_map, List.getElem?_zipIdx]
  cases xs[i]? <;> simp
theorem jrel_enumL {hm : MHp} {v : MV} (hr : HR Y ι hm H) (r : Rep Y ι hm.length H v (.ref a)) : JRel Y ι hm.length H (Ite K a) (enumL xs) (fun h' => lstOf h' v = some xs) := by
  intro qh hs0 ι' hm' H' hr' ex ok i
  obtain ⟨b, vs, eb, hs, ra⟩ := lstOf_rep K hr' ((r.rehid hs0).mono ex hr.live) ok
  cases eb
  rw [enumL_get]
  refine ⟨fun e => ⟨vs, hs, by rw [← ra.length]; exact List.getElem?_eq_none_iff.mp (Option.map_eq_none_iff.mp e)⟩, fun v e => ?_⟩
  obtain ⟨x0, e0, ev⟩ := Option.map_eq_some_iff.mp e
  obtain ⟨y, hy, ry⟩ := ra.get e0
  subst ev
  refine ⟨⟨vs, y, hs, hy⟩, fun x H2 ⟨T, z, e1, e2, e3, hx⟩ => ?_⟩
  subst e1 e3
  have ez := hx vs hs
  rw [hy] at ez
  cases ez
  exact pair_rep hr' (.int _) ry e2
theorem jrel_enumT {hm : MHp} {vs : List V} (hr : HR Y ι hm H) (ha : H a = some (.tup vs)) (r : RepAll Y ι hm.length H xs vs) : JRel Y ι hm.length H (ItE K a) (enumL xs) (fun _ => True) := by
  intro qh hs0 ι' hm' H' hr' ex _ i
  have ra := (r.rehid hs0).mono ex hr.live
  have hs : SqT K H' a vs := SqT.of (ex.imm hr.live ha rfl)
  rw [enumL_get]
  refine ⟨fun e => ⟨vs, hs, by rw [← ra.length]; exact List.getElem?_eq_none_iff.mp (Option.map_eq_none_iff.mp e)⟩, fun v e => ?_⟩
  obtain ⟨x0, e0, ev⟩ := Option.map_eq_some_iff.mp e
  obtain ⟨y, hy, ry⟩ := ra.get e0
  subst ev
  refine ⟨⟨vs, y, hs, hy⟩, fun x H2 ⟨T, z, e1, e2, e3, hx⟩ => ?_⟩
  subst e1 e3
  have ez := hx vs hs
  rw [hy] at ez
  cases ez
  exact pair_rep hr' (.int _) ry e2
end
theorem si_enum {Y : Lay} {W : WX} {X : Cx} {r : MA} {elts : List Expr} {kk : Nat} {tpos : Pos} {a : Expr} {p pos : Pos} (hg : Gl X "enumerate") (hm : X.mg "enumerate" = none) (ha : SA Y W X r [a]) (hs : starEach [a] X.env = [(false, eval a X.env)] := by rfl) : SI Y W X (iEnum r) (.Tuple elts kk tpos) (.Call (.Name "enumerate" p) [a] [] pos) :=
  piI (pi_enA hg hm ha hs) fun s H R ⟨ι, sm, hm, Rm, Em, hr, rs, q, tx, tr⟩ => by
    refine ⟨ι, sm, hm, _, Em, hr, rs, q, fun vs h1 ι1 H1 xs hr1 e1 r1 q1 => ?_, tx⟩
    have go : ∀ (v : MV) (x : V) (xs : List MV), Rep Y ι1 h1.length H1 v x → lstOf h1 v = some xs → Rm (enumL xs) (fun h' => lstOf h' v = some xs) h1 → ∃ a, [x] = [V.ref a] ∧ (((∃ xs, SqL X.K H1 a xs) ∧ R (Ite X.K a) H1) ∨ ((∃ xs, SqT X.K H1 a xs) ∧ R (ItE X.K a) H1)) := by
      intro v x xs r e q
      obtain ⟨b, vs, eb, hs, ra⟩ := lstOf_rep X.K hr1 r e
      subst eb
      exact ⟨b, rfl, .inl ⟨⟨vs, hs⟩, tr _ _ _ _ _ _ hr1 e1 (jrel_enumL hr1 r) q⟩⟩
    cases r1 with
    | nil => exact q1.elim
    | cons ra rb =>
      cases rb with
      | nil =>
        cases ra with
        | @tup xs vs a ea ra => exact ⟨a, rfl, .inr ⟨⟨vs, SqT.of ea⟩, tr _ _ _ _ _ _ hr1 e1 (jrel_enumT hr1 ea ra) q1⟩⟩
        | fl ea o ra => obtain ⟨xs, e, q⟩ := q1; exact go _ _ xs (.fl ea o ra) e q
        | sc ea o ra => obtain ⟨xs, e, q⟩ := q1; exact go _ _ xs (.sc ea o ra) e q
        | ref hi => obtain ⟨xs, e, q⟩ := q1; exact go _ _ xs (.ref hi) e q
        | _ => obtain ⟨xs, e, q⟩ := q1; cases e
      | cons _ _ => cases ra <;> exact q1.elim

def zipL (xs ys : List MV) : List MV := List.zipWith (fun x y => .tup [x, y]) xs ys
def iZip (r : MA) : MI := fun s h R E => r s h (fun vs h1 => match vs with
  | [.tup xs, .tup ys] => R (zipL xs ys) (fun _ => True) h1
  | [v, u] => ∃ xs ys, lstOf h1 v = some xs ∧ lstOf h1 u = some ys ∧ R (zipL xs ys) (fun h' => lstOf h' v = some xs ∧ lstOf h' u = some ys) h1
  | _ => False) E
section
variable {Y : Lay} {ι : Nat → Addr} {n : Nat} {H : Hp} {K : PySem.W.Frag} {a b : Addr} {xs ys : List MV}
end
end Mini
namespace Mini
open PySem PySem.Spec PyProof.Rows L2

abbrev Lay.hide (Y : Lay) (D : Addr) : Lay := Y.re fun a => Y.hid a ∨ a = D
abbrev NoW : WX := fun _ _ _ _ => False
abbrev NoE : MQ := fun _ _ => False
theorem trX_no {Y : Lay} {ι : Nat → Addr} {n : Nat} {H : Hp} {s : L2.St} {W : WX} : TrX Y ι n H s NoE W := fun _ _ _ _ _ _ _ _ _ z => z.elim
section
variable {Y : Lay} {ι ι' : Nat → Addr} {n n' : Nat} {H H' : Hp} {hm : MHp} {D : Addr} {q : Addr → Prop}
theorem repC_rehid (hs : ∀ a, q a → Y.hid a ∨ H a = none) {a : Addr} {c : Cell} (r : RepC Y ι n H a c) : RepC (Y.re q) ι n H a c := by
  cases c with
  | lst xs => obtain ⟨vs, h, r⟩ := r; exact ⟨vs, h, r.rehid hs⟩
  | dct ep ks xs => obtain ⟨es, h, g, r, r2⟩ := r; exact ⟨es, h, g, r.rehid hs, r2.rehid hs⟩
  | st xs => obtain ⟨ys, es, h, pm, g, r⟩ := r; exact ⟨ys, es, h, pm, g, r.rehid hs⟩
  | ins c xs => obtain ⟨dx, ys, h, g, r⟩ := r; exact ⟨dx, ys, h, g, r.rehid hs⟩
theorem repC_unhid (hs : ∀ a, q a → Y.hid a) {a : Addr} {c : Cell} (r : RepC Y ι n H a c) : RepC (Y.re q) ι n H a c := by
  cases c with
  | lst xs => obtain ⟨vs, h, r⟩ := r; exact ⟨vs, h, r.unhid hs⟩
  | dct ep ks xs => obtain ⟨es, h, g, r, r2⟩ := r; exact ⟨es, h, g, r.unhid hs, r2.unhid hs⟩
  | st xs => obtain ⟨ys, es, h, pm, g, r⟩ := r; exact ⟨ys, es, h, pm, g, r.unhid hs⟩
  | ins c xs => obtain ⟨dx, ys, h, g, r⟩ := r; exact ⟨dx, ys, h, g, r.unhid hs⟩
theorem repC_updH {o u : HO} (hD : Y.hid D) (e : H D = some u) (hk : mutK u = true) {a : Addr} {c : Cell} (ha : a ≠ D) (r : RepC Y ι n H a c) : RepC Y ι n (upd H D o) a c := by
  cases c with
  | lst xs => obtain ⟨vs, h, r⟩ := r; exact ⟨vs, by rw [upd_ne ha]; exact h, r.updH hD e hk⟩
  | dct ep ks xs => obtain ⟨es, h, g, r, r2⟩ := r; exact ⟨es, by rw [upd_ne ha]; exact h, g, r.updH hD e hk, r2.updH hD e hk⟩
  | st xs => obtain ⟨ys, es, h, pm, g, r⟩ := r; exact ⟨ys, es, by rw [upd_ne ha]; exact h, pm, g, r.updH hD e hk⟩
  | ins c xs => obtain ⟨dx, ys, h, g, r⟩ := r; exact ⟨dx, ys, by rw [upd_ne ha]; exact h, g, r.updH hD e hk⟩
theorem HR.hideNew (hr : HR Y ι hm H) (hD : H D = none) (o : HO) : HR (Y.hide D) ι hm (upd H D o) where
  inj := hr.inj
  cell := fun i c e => repC_mono (Ext.new hD) hr.live (fun u hu _ => by rw [upd_ne (ne_of_none hu hD)]; exact hu) (repC_rehid (fun a ha => ha.imp id fun z => by rw [z]; exact hD) (hr.cell i c e))
  hid := fun a ha => by
    rcases ha with ha | rfl
    · obtain ⟨⟨u, hu⟩, h2⟩ := hr.hid a ha
      exact ⟨⟨u, by rw [upd_ne (ne_of_none hu hD)]; exact hu⟩, h2⟩
    · exact ⟨⟨o, upd_same⟩, (hr.off hD).2⟩
theorem HR.unhide (hr : HR (Y.hide D) ι hm H) : HR Y ι hm H where
  inj := hr.inj
  cell := fun i c e => repC_unhid (Y := Y.hide D) (q := Y.hid) (fun a ha => .inl ha) (hr.cell i c e)
  hid := fun a ha => hr.hid a (.inl ha)
theorem HR.updH {o u : HO} (hr : HR Y ι hm H) (hD : Y.hid D) (e : H D = some u) (hk : mutK u = true) : HR Y ι hm (upd H D o) where
  inj := hr.inj
  cell := fun i c e' => repC_updH hD e hk ((hr.hid D hD).2 i (List.getElem?_eq_some_iff.mp e').1) (hr.cell i c e')
  hid := fun a ha => by
    refine ⟨?_, (hr.hid a ha).2⟩
    by_cases z : a = D
    · exact ⟨o, by rw [z, upd_same]⟩
    · obtain ⟨u, hu⟩ := (hr.hid a ha).1
      exact ⟨u, by rw [upd_ne z]; exact hu⟩
theorem RepAll.unhide {xs : List MV} {vs : List V} (r : RepAll (Y.hide D) ι n H xs vs) : RepAll Y ι n H xs vs := RepAll.unhid (Y := Y.hide D) (q := Y.hid) (fun a ha => .inl ha) r
theorem Rep.unhide {x : MV} {v : V} (r : Rep (Y.hide D) ι n H x v) : Rep Y ι n H x v := Rep.unhid (Y := Y.hide D) (q := Y.hid) (fun a ha => .inl ha) r
theorem Ext.updF (e : Ext n n' ι ι' H H') (hD : H D = none) {o : HO} : Ext n n' ι ι' H (upd H' D o) :=
  ⟨e.le, e.same, fun a u h ho => by rw [upd_ne (ne_of_none h hD)]; exact e.keep a u h ho, e.fresh⟩
end

def wipeM (s : MSt) : List Nat → MSt
  | [] => s
  | v :: vs => (wipeM s vs).set v none
theorem RS.wipe {Y : Lay} {ι : Nat → Addr} {n : Nat} {H : Hp} {sm : MSt} {s : L2.St} (r : RS Y ι n H sm s) : ∀ vs : List Nat, RS Y ι n H (wipeM sm vs) (L2.wipe s vs)
  | [] => r
  | v :: vs => by
    have q := r.wipe vs
    refine ⟨by simp [wipeM, L2.wipe, q.1], fun i x e => ?_⟩
    by_cases hv : v = i
    · subst hv
      unfold wipeM at e
      by_cases hl : v < (wipeM sm vs).length
      · rw [List.getElem?_set_self hl] at e
        cases e
      · rw [List.getElem?_eq_none (by simpa using hl)] at e
        cases e
    · unfold wipeM at e
      unfold L2.wipe
      rw [List.getElem?_set_ne hv] at e ⊢
      exact q.2 i x e
def tMGo (Y : Lay) (vs : List Nat) (g : MG) : TG := fun x s H Q => ∃ ι sm hm v Qm, HR Y ι hm H ∧ RS Y ι hm.length H sm s ∧ Rep Y ι hm.length H v x ∧ g v sm hm Qm NoE ∧
  ∀ sm' h' ι' H' s', HR Y ι' h' H' → Ext hm.length h'.length ι ι' H H' → RS Y ι' h'.length H' sm' s' → L2.wipe s' vs = L2.wipe s vs → Qm sm' h' → Q s' H'
def tMGso (Y : Lay) (vs : List Nat) (g : MGs) : TGs := fun xs s H Q => ∃ ι sm hm zs Qm, HR Y ι hm H ∧ RS Y ι hm.length H sm s ∧ RepAll Y ι hm.length H zs xs ∧ g zs sm hm Qm NoE ∧
  ∀ sm' h' ι' H' s', HR Y ι' h' H' → Ext hm.length h'.length ι ι' H H' → RS Y ι' h'.length H' sm' s' → L2.wipe s' vs = L2.wipe s vs → Qm sm' h' → Q s' H'
abbrev SGo (Y : Lay) (X : Cx) (vs : List Nat) (g : MG) (tg : Expr) : Prop := PG X tg (tMGo Y vs g)
abbrev SGso (Y : Lay) (X : Cx) (vs : List Nat) (g : MGs) (tgs : List Expr) : Prop := PGs X tgs (tMGso Y vs g)
theorem wipe_set {s : L2.St} {i : Nat} {v : Option V} : ∀ {vs : List Nat}, i ∈ vs → L2.wipe (s.set i v) vs = L2.wipe s vs
  | [], h => nomatch h
  | w :: vs, h => by
    unfold L2.wipe
    by_cases hi : i ∈ vs
    · rw [wipe_set hi]
    · have e : i = w := by
        rcases List.mem_cons.mp h with e | e
        · exact e
        · exact absurd e hi
      subst e
      have key : ∀ us : List Nat, L2.wipe (s.set i v) us = (L2.wipe s us).set i (if i ∈ us then none else v) := by
        intro us
        induction us with
        | nil => simp [L2.wipe]
        | cons u us ih =>
          unfold L2.wipe
          rw [ih]
          by_cases e : u = i
          · subst e
            simp
          · rw [List.set_comm _ _ (Ne.symm e)]
            have : (i ∈ u :: us) = (i ∈ us) := by simp [Ne.symm e]
            simp only [this]
      rw [key vs, List.set_set]
section
variable {Y : Lay} {X : Cx} {vs : List Nat} {g : MG} {gs : MGs} {e : Expr} {es : List Expr} {pos : Pos}
theorem sgo_name {i : Nat} {x : Str} (hN : X.N.Nodup) (hv : i ∈ vs := by decide) (hi : X.N[i]? = some x := by rfl) (hx : Loc X.env.scope x := by first | exact Or.inl rfl | exact Or.inr rfl) (hf : X.fn x = true ∨ X.env.scope.names.lookup x = some .local := by first | exact .inl rfl | exact .inr rfl | assumption) : SGo Y X vs (gN i) (.Name x pos) :=
  psgI (pg_name hN hi hx hf) fun x s H Q ⟨ι, sm, hm, v, Qm, hr, rs, r, q, tq⟩ => tq _ _ _ _ _ hr .refl (rs.set i r) (wipe_set hv) q
theorem sgso_nil : SGso Y X vs gsNil [] := psgsI pgs_nil fun xs s H Q ⟨ι, sm, hm, zs, Qm, hr, rs, r, ⟨e, q⟩, tq⟩ => by
  subst e
  cases r
  exact ⟨rfl, tq _ _ _ _ _ hr .refl rs rfl q⟩
theorem sgso_cons (h1 : SGo Y X vs g e) (h2 : SGso Y X vs gs es) (hs : (assignEach (e :: es) X.env).map (·.2) = assign e X.env :: (assignEach es X.env).map (·.2) := by rfl) : SGso Y X vs (gsCons g gs) (e :: es) := psgsI (pgs_cons h1 h2 hs) fun xs s H Q ⟨ι, sm, hm, zs, Qm, hr, rs, r, ⟨v, vs', ev, q⟩, tq⟩ => by
  subst ev
  cases r with
  | cons r1 r2 =>
    refine ⟨_, _, rfl, ι, sm, hm, v, _, hr, rs, r1, q, fun sm' h' ι' H' s' hr' ex rs' hw q' => ?_⟩
    exact ⟨ι', sm', h', vs', Qm, hr', rs', r2.mono ex hr.live, q', fun sm2 h2 ι2 H2 s2 hr2 ex2 rs2 hw2 q2 => tq _ _ _ _ _ hr2 (ex.trans ex2 hr.live hr'.live) rs2 (hw2.trans hw) q2⟩
theorem sgo_tup {k n : Nat} (hc : X.calm = true) (h : SGso Y X vs gs es) (hn : (assignEach es X.env).length = n := by rfl) (hst : (assignEach es X.env).findIdx? (·.1) = none := by rfl) : SGo Y X vs (gT gs n) (.Tuple es k pos) :=
  psgI (pg_tup hc h hn hst) fun x s H Q ⟨ι, sm, hm, v, Qm, hr, rs, r, ⟨zs, ev, hl, q⟩, tq⟩ => by
    subst ev
    cases r with
    | tup e ra => exact ⟨_, _, rfl, SqT.of e, by rw [← ra.length]; exact hl, ι, sm, hm, zs, Qm, hr, rs, ra, q, tq⟩
end

def compM (ok : MHp → Prop) (g : MG) (t : MT) (elt : ME) (s0 : MSt) : List MV → List MV → MHp → (List MV → MHp → Prop) → Prop
  | [], acc, h, Q => ok h ∧ Q acc h
  | x :: xs, acc, h, Q => ok h ∧ g x s0 h (fun s1 h1 => t s1 h1 (fun b h2 => if b = true then elt s1 h2 (fun v h3 => acc.length < sizeLine ∧ compM ok g t elt s0 xs (acc ++ [v]) h3 Q) NoE else compM ok g t elt s0 xs acc h2 Q) NoE) NoE
def mLc (mi : MI) (g : MG) (t : MT) (elt : ME) (vs : List Nat) : ME := fun s h Q E => mi s h (fun xs ok h1 => compM ok g t elt (wipeM s vs) xs [] h1 (fun ys h2 => Q (.fl ys) h2)) E
def mLcC (mi : MI) (g : MG) (t : MT) (elt : ME) (vs : List Nat) : ME := fun s h Q E => mi s h (fun xs ok h1 => compM ok g t elt (wipeM s vs) xs [] h1 (fun ys h2 => Q (.ref h2.length) (h2 ++ [.lst ys]))) E
def tAll : MT := fun _ h Q _ => Q true h
abbrev STs (Y : Lay) (W : WX) (X : Cx) (m : MT) (ifs : List Expr) : Prop := PTs X ifs (tMT Y W m)
section
variable {Y : Lay} {W : WX} {X : Cx} {t : MT}
theorem ptsI {ifs : List Expr} {t t' : TT} (h : PTs X ifs t) (i : ∀ s H Q, t' s H Q → t s H Q) : PTs X ifs t' := ⟨fun pins s σ H Q I q => h.run pins s σ H Q I (i _ _ _ q)⟩
theorem sts_nil : STs Y W X tAll [] := ptsI pts_nil fun s H Q ⟨ι, sm, hm, Qm, Em, hr, rs, q, tq, tx⟩ => tq _ _ _ _ hr .refl q
theorem sts_one {c : Expr} (h : ST Y W X t c) : STs Y W X t [c] := pts_one h
end
theorem lc_read {Y : Lay} {W : WX} {mi : MI} {g : MG} {t : MT} {elt : ME} {vs : List Nat} {K : List MV → MHp → MQ → Prop} {s : L2.St} {H : Hp} {Q : VK}
    (h : tM Y W (fun s h Q E => mi s h (fun xs ok h1 => compM ok g t elt (wipeM s vs) xs [] h1 (fun ys h2 => K ys h2 Q)) E) s H Q)
    (hK : ∀ ι hm H ys zs Qm (D : Addr) H0, HR (Y.hide D) ι hm H → Off Y ι hm.length D → H D = some (.lst zs) → RepAll (Y.hide D) ι hm.length H ys zs → K ys hm Qm → (∀ n ι0, n ≤ hm.length → Ext n hm.length ι0 ι H0 H → H0 D = none → TrQ Y ι0 n H0 Qm Q → Q (.ref D) H)) :
    tLc (tMI Y W mi) (fun x s H Q => ∃ D, tMGo (Y.hide D) vs g x s H Q) (fun s H Q => ∃ D, tMT (Y.hide D) NoW t s H Q) (fun s H Q => ∃ D, tM (Y.hide D) NoW elt s H Q) vs s H Q := by
  obtain ⟨ι, sm, hm, Qm, Em, hr, rs, q, tq, tx⟩ := h
  refine ⟨ι, sm, hm, _, Em, hr, rs, q, tx, fun xs ok h1 ι1 H1 J hr1 e1 jr q1 D hD => ?_⟩
  have hfree : ∀ a, (Y.hid a ∨ a = D) → Y.hid a ∨ H1 a = none := fun a ha => ha.imp id fun z => by rw [z]; exact hD
  have tq1 := tq.mono e1 hr.live hr1.live
  have rs1 := (rs.mono e1 hr.live).wipe vs
  refine ⟨fun i k H' => ∃ ι' hm' acc zs, HR (Y.hide D) ι' hm' H' ∧ H' D = some (.lst zs) ∧ RepAll (Y.hide D) ι' hm'.length H' acc zs ∧ compM ok g t elt (wipeM sm vs) (xs.drop i) acc hm' (fun ys h2 => K ys h2 Qm) ∧ Ext h1.length hm'.length ι1 ι' H1 H' ∧ k = xs.length - i ∧ i ≤ xs.length,
    ⟨_, ι1, h1, [], [], hr1.hideNew hD _, upd_same, .nil, q1, Ext.new hD, rfl, Nat.zero_le _⟩, ?_⟩
  rintro i k H2 ⟨ι2, hm2, acc, zs, hr2, hD2, ra2, q2, e2, rfl, hi2⟩
  cases e : xs[i]? with
  | none =>
    have hd : xs.drop i = [] := List.drop_eq_nil_of_le (List.getElem?_eq_none_iff.mp e)
    rw [hd] at q2
    have off : Off Y ι2 hm2.length D := by
      refine ⟨fun z => ?_, (hr2.hid D (.inr rfl)).2⟩
      obtain ⟨u, hu⟩ := (hr1.hid D z).1
      rw [hD] at hu
      cases hu
    exact .inl ⟨((jr _ hfree ι2 hm2 H2 hr2 e2 q2.1) i).1 e, hK ι2 hm2 H2 acc zs Qm D H1 hr2 off hD2 ra2 q2.2 h1.length ι1 e2.le e2 hD tq1⟩
  | some v =>
    obtain ⟨hlt, ev⟩ := List.getElem?_eq_some_iff.mp e
    have hd : xs.drop i = v :: xs.drop (i + 1) := by rw [List.drop_eq_getElem_cons hlt, ev]
    rw [hd] at q2
    obtain ⟨go, y⟩ := ((jr _ hfree ι2 hm2 H2 hr2 e2 q2.1) i).2 v e
    refine .inr ⟨go, fun H' => ∃ ι' hm' acc zs, HR (Y.hide D) ι' hm' H' ∧ H' D = some (.lst zs) ∧ RepAll (Y.hide D) ι' hm'.length H' acc zs ∧ compM ok g t elt (wipeM sm vs) (xs.drop (i + 1)) acc hm' (fun ys h2 => K ys h2 Qm) ∧ Ext h1.length hm'.length ι1 ι' H1 H',
      fun H' ⟨ι', hm', acc, zs, a1, a2, a3, a4, a5⟩ => ⟨_, by omega, ι', hm', acc, zs, a1, a2, a3, a4, a5, rfl, hlt⟩, fun x H3 yl => ?_⟩
    obtain ⟨hr3, e3, r3⟩ := y x H3 yl
    have e13 := e2.trans e3 hr1.live hr2.live
    have off3 : ∀ i, i < hm2.length → ι2 i ≠ D := (hr2.hid D (.inr rfl)).2
    have hD3 : H3 D = some (.lst zs) := e3.keep D _ hD2 off3
    have rs3 : RS (Y.hide D) ι2 hm2.length H3 (wipeM sm vs) (L2.wipe s vs) := by
      refine ⟨rs1.1, fun j u eu => ?_⟩
      obtain ⟨z, hz, rz⟩ := rs1.2 j u eu
      exact ⟨z, hz, (rz.rehid hfree).mono e13 hr1.live⟩
    refine ⟨D, ι2, wipeM sm vs, hm2, v, _, hr3, rs3, r3, q2.2, fun sm4 h4 ι4 H4 s4 hr4 e4 rs4 hw4 q4 => ?_⟩
    have hw5 : L2.wipe s4 vs = L2.wipe s vs := by
      rw [hw4]
      have key : ∀ us : List Nat, (∀ u ∈ us, u ∈ vs) → L2.wipe (L2.wipe s vs) us = L2.wipe s vs := by
        intro us
        induction us with
        | nil => intro _; rfl
        | cons u us ih =>
          intro hu
          show (L2.wipe (L2.wipe s vs) us).set u none = _
          rw [ih fun w hw => hu w (List.mem_cons_of_mem _ hw)]
          have hmem : u ∈ vs := hu u List.mem_cons_self
          have keep : ∀ ws : List Nat, u ∈ ws → (L2.wipe s ws).set u none = L2.wipe s ws := by
            intro ws
            induction ws with
            | nil => intro h; cases h
            | cons w ws ihw =>
              intro h
              show ((L2.wipe s ws).set w none).set u none = (L2.wipe s ws).set w none
              by_cases ew : w = u
              · subst ew; rw [List.set_set]
              · have hin : u ∈ ws := by
                  rcases List.mem_cons.mp h with e | e
                  · exact absurd e.symm ew
                  · exact e
                rw [List.set_comm _ _ ew, ihw hin]
          exact keep vs hmem
      exact key vs fun _ h => h
    refine ⟨hw5, ?_⟩
    have hD4 : H4 D = some (.lst zs) := e4.keep D _ hD3 off3
    refine ⟨D, ι4, sm4, h4, _, NoE, hr4, rs4, q4, fun b h5 ι5 H5 hr5 e5 q5 => ?_, trX_no⟩
    have off5 : ∀ i, i < h5.length → ι5 i ≠ D := (hr5.hid D (.inr rfl)).2
    have hD5 : H5 D = some (.lst zs) := e5.keep D _ hD4 (hr4.hid D (.inr rfl)).2
    have e15 := (e13.trans e4 hr1.live hr3.live).trans e5 hr1.live hr4.live
    have ra5 : RepAll (Y.hide D) ι5 h5.length H5 acc zs := ((ra2.mono e3 hr2.live).mono e4 hr3.live).mono e5 hr4.live
    cases b with
    | false => exact iteF ⟨ι5, h5, acc, zs, hr5, hD5, ra5, q5, e15⟩
    | true =>
      refine iteT ⟨D, ι5, sm4, h5, _, NoE, hr5, rs4.mono e5 hr4.live, q5, fun w h6 ι6 H6 z hr6 e6 r6 q6 => ?_, trX_no⟩
      have hD6 : H6 D = some (.lst zs) := e6.keep D _ hD5 off5
      have ra6 := ra5.mono e6 hr5.live
      refine ⟨zs, hD6, by rw [← ra6.length]; exact q6.1, ι6, h6, acc ++ [w], zs ++ [z], hr6.updH (show (Y.hide D).hid D from .inr rfl) hD6 rfl, upd_same, ?_, q6.2, (e15.trans e6 hr1.live hr5.live).updF hD⟩
      exact (ra6.append (.cons r6 .nil)).updH (show (Y.hide D).hid D from .inr rfl) hD6 rfl
section
variable {Y : Lay} {W : WX} {X : Cx} {mi : MI} {g : MG} {t : MT} {m : ME} {elt tg iter : Expr} {ifs : List Expr} {scope : Scope} {own : List (Str × Nat)} {pos : Pos}
theorem pgU {X : Cx} {tg : Expr} {t : Addr → TG} (h : ∀ D, PG X tg (t D)) : PG X tg (fun x s H Q => ∃ D, t D x s H Q) := ⟨fun pins s σ H v u Q I r ⟨D, q⟩ => (h D).run pins s σ H v u Q I r q⟩
theorem ptsU {X : Cx} {ifs : List Expr} {t : Addr → TT} (h : ∀ D, PTs X ifs (t D)) : PTs X ifs (fun s H Q => ∃ D, t D s H Q) := ⟨fun pins s σ H Q I ⟨D, q⟩ => (h D).run pins s σ H Q I q⟩
theorem peU {X : Cx} {e : Expr} {t : Addr → TE} (h : ∀ D, PE X e (t D)) : PE X e (fun s H Q => ∃ D, t D s H Q) := ⟨fun pins s σ H Q I ⟨D, q⟩ => (h D).run pins s σ H Q I q⟩
theorem kF {ι : Nat → Addr} {hm : MHp} {H : Hp} {ys : List MV} {zs : List V} {Qm : MQ} {D : Addr} {H0 : Hp} {Q : VK} (hr : HR (Y.hide D) ι hm H) (off : Off Y ι hm.length D) (hD : H D = some (.lst zs)) (ra : RepAll (Y.hide D) ι hm.length H ys zs) (k : Qm (.fl ys) hm)
    (n : Nat) (ι0 : Nat → Addr) (hn : n ≤ hm.length) (e : Ext n hm.length ι0 ι H0 H) (h0 : H0 D = none) (tq : TrQ Y ι0 n H0 Qm Q) : Q (.ref D) H := tq _ hm ι H _ hr.unhide e (.fl hD off ra.unhide) k
end
section
variable {Y : Lay} {ι : Nat → Addr} {n : Nat} {H : Hp} {hm : MHp} {D : Addr}
theorem Off.prom {a : Addr} (o : Off (Y.hide D) ι n a) : Off Y (snocι ι n D) (n + 1) a := by
  refine ⟨fun z => o.1 (.inl z), fun i hi => ?_⟩
  by_cases h : i < n
  · rw [snocι_lt h]; exact o.2 i h
  · obtain rfl : i = n := by omega
    rw [snocι_at]
    exact fun z => o.1 (.inr z.symm)
mutual
/-- a hidden object becomes the next cell -/
theorem Rep.prom : ∀ {v : MV} {x : V}, Rep (Y.hide D) ι n H v x → Rep Y (snocι ι n D) (n + 1) H v x
  | _, _, .non => .non
  | _, _, .bl b => .bl b
  | _, _, .int i => .int i
  | _, _, .str x => .str x
  | _, _, .tup h r => .tup h (RepAll.prom r)
  | _, _, .fl h o r => .fl h o.prom (RepAll.prom r)
  | _, _, .sc h o r => .sc h o.prom (RepAll.prom r)
  | _, _, .fd h o g r r2 => .fd h o.prom g (RepAll.prom r) (RepAll.prom r2)
  | _, _, .fs h o p g r => .fs h o.prom p g (RepAll.prom r)
  | _, _, .fi h o g r => .fi h o.prom g (RepAll.prom r)
  | _, _, .ex0 h o => .ex0 h o.prom
  | _, _, .ex1 h o hd g r => .ex1 h o.prom hd g (RepAll.prom r)
  | _, _, .ref (i := i) h => (snocι_lt (ι := ι) (p := D) h) ▸ .ref (Nat.lt_succ_of_lt h)
theorem RepAll.prom : ∀ {v : List MV} {x : List V}, RepAll (Y.hide D) ι n H v x → RepAll Y (snocι ι n D) (n + 1) H v x
  | _, _, .nil => .nil
  | _, _, .cons h t => .cons (Rep.prom h) (RepAll.prom t)
end
theorem repC_prom {a : Addr} {c : Cell} (r : RepC (Y.hide D) ι n H a c) : RepC Y (snocι ι n D) (n + 1) H a c := by
  cases c with
  | lst xs => obtain ⟨vs, h, r⟩ := r; exact ⟨vs, h, r.prom⟩
  | dct ep ks xs => obtain ⟨es, h, g, r, r2⟩ := r; exact ⟨es, h, g, r.prom, r2.prom⟩
  | st xs => obtain ⟨ys, es, h, pm, g, r⟩ := r; exact ⟨ys, es, h, pm, g, r.prom⟩
  | ins c xs => obtain ⟨dx, ys, h, g, r⟩ := r; exact ⟨dx, ys, h, g, r.prom⟩
theorem HR.prom {c : Cell} (hr : HR (Y.hide D) ι hm H) (nh : ¬ Y.hid D) (rc : RepC (Y.hide D) ι hm.length H D c) : HR Y (snocι ι hm.length D) (hm ++ [c]) H where
  inj := fun i j hi hj e => by
    rw [List.length_append, List.length_singleton] at hi hj
    have off : ∀ i, i < hm.length → ι i ≠ D := (hr.hid D (.inr rfl)).2
    by_cases h1 : i < hm.length <;> by_cases h2 : j < hm.length
    · rw [snocι_lt h1, snocι_lt h2] at e
      exact hr.inj i j h1 h2 e
    · obtain rfl : j = hm.length := by omega
      rw [snocι_lt h1, snocι_at] at e
      exact absurd e (off i h1)
    · obtain rfl : i = hm.length := by omega
      rw [snocι_lt h2, snocι_at] at e
      exact absurd e.symm (off j h2)
    · omega
  cell := fun i c' e => by
    rw [List.length_append, List.length_singleton]
    by_cases h : i < hm.length
    · rw [List.getElem?_append_left h] at e
      rw [snocι_lt h]
      exact repC_prom (hr.cell i c' e)
    · have hi : i = hm.length := by
        have := (List.getElem?_eq_some_iff.mp e).1
        rw [List.length_append, List.length_singleton] at this
        omega
      subst hi
      rw [List.getElem?_append_right (Nat.le_refl _), Nat.sub_self] at e
      simp only [List.getElem?_cons_zero, Option.some.injEq] at e
      subst e
      rw [snocι_at]
      exact repC_prom rc
  hid := fun a ha => by
    refine ⟨(hr.hid a (.inl ha)).1, fun i hi => ?_⟩
    rw [List.length_append, List.length_singleton] at hi
    by_cases h : i < hm.length
    · rw [snocι_lt h]; exact (hr.hid a (.inl ha)).2 i h
    · obtain rfl : i = hm.length := by omega
      rw [snocι_at]
      exact fun z => nh (z ▸ ha)
theorem Ext.prom {n : Nat} {ι0 : Nat → Addr} {H0 : Hp} {c : Cell} (hn : n ≤ hm.length) (e : Ext n hm.length ι0 ι H0 H) (h0 : H0 D = none) : Ext n (hm ++ [c]).length ι0 (snocι ι hm.length D) H0 H := by
  rw [List.length_append, List.length_singleton]
  refine ⟨Nat.le_succ_of_le hn, fun i hi => by rw [snocι_lt (Nat.lt_of_lt_of_le hi hn)]; exact e.same i hi, e.keep, fun i h1 h2 => ?_⟩
  by_cases hi : i < hm.length
  · rw [snocι_lt hi]; exact e.fresh i h1 hi
  · obtain rfl : i = hm.length := by omega
    rw [snocι_at]; exact h0
end
end Mini
namespace Mini
open PySem PySem.Spec PyProof.Rows L2

mutual
/-- no cell from n on is reached -/
def MV.lo (n : Nat) : MV → Bool
  | .ref i => decide (i < n)
  | .tup xs => loAll n xs
  | .fl xs => loAll n xs
  | .sc xs => loAll n xs
  | .fd ks vs => loAll n ks && loAll n vs
  | .fs xs => loAll n xs
  | .fi _ vs => loAll n vs
  | .ex _ vs => loAll n vs
  | _ => true
def loAll (n : Nat) : List MV → Bool
  | [] => true
  | x :: xs => x.lo n && loAll n xs
end
def Cell.lo (n : Nat) : Cell → Bool
  | .lst xs => loAll n xs
  | .dct _ ks vs => loAll n ks && loAll n vs
  | .st xs => loAll n xs
  | .ins _ vs => loAll n vs
def oldOk (n : Nat) (h : MHp) : Bool := (h.take n).all fun c => c.lo n
def frz (n : Nat) (h : MHp) : Nat → MV → MV
  | 0, v => v
  | k + 1, .tup xs => .tup (xs.map (frz n h k))
  | k + 1, .fl xs => .fl (xs.map (frz n h k))
  | k + 1, .ref i => if i < n then .ref i else match h[i]? with
    | some (.lst xs) => .fl (xs.map (frz n h k))
    | some (.dct _ ks vs) => .fd ks (vs.map (frz n h k))
    | some (.ins c xs) => .fi c (xs.map (frz n h k))
    | _ => .ref i
  | _, v => v
theorem loAll_iff {n : Nat} : ∀ {xs : List MV}, loAll n xs = true ↔ ∀ x ∈ xs, x.lo n = true
  | [] => by simp [loAll]
  | x :: xs => by simp [loAll, loAll_iff (xs := xs)]

section
variable {Y : Lay} {ι : Nat → Addr} {n n' : Nat} {H : Hp} {hm : MHp}
theorem Off.drop {a : Addr} (h : n ≤ n') (o : Off Y ι n' a) : Off Y ι n a := ⟨o.1, fun i hi => o.2 i (Nat.lt_of_lt_of_le hi h)⟩
theorem loAll_perm {xs ys : List MV} (p : ys.Perm xs) (h : loAll n xs = true) : loAll n ys = true := loAll_iff.mpr fun x hx => loAll_iff.mp h x (p.mem_iff.mp hx)
mutual
theorem Rep.cut (h : n ≤ n') : ∀ {v : MV} {x : V}, Rep Y ι n' H v x → v.lo n = true → Rep Y ι n H v x
  | _, _, .non, _ => .non
  | _, _, .bl b, _ => .bl b
  | _, _, .int i, _ => .int i
  | _, _, .str x, _ => .str x
  | _, _, .tup e r, l => .tup e (RepAll.cut h r (by simpa [MV.lo] using l))
  | _, _, .fl e o r, l => .fl e (o.drop h) (RepAll.cut h r (by simpa [MV.lo] using l))
  | _, _, .sc e o r, l => .sc e (o.drop h) (RepAll.cut h r (by simpa [MV.lo] using l))
  | _, _, .fd e o g r r2, l => by
    simp only [MV.lo, Bool.and_eq_true] at l
    exact .fd e (o.drop h) g (RepAll.cut h r l.1) (RepAll.cut h r2 l.2)
  | _, _, .fs e o p g r, l => .fs e (o.drop h) p g (RepAll.cut h r (loAll_perm p (by simpa [MV.lo] using l)))
  | _, _, .fi e o g r, l => .fi e (o.drop h) g (RepAll.cut h r (by simpa [MV.lo] using l))
  | _, _, .ex0 e o, _ => .ex0 e (o.drop h)
  | _, _, .ex1 e o hd g r, l => .ex1 e (o.drop h) hd g (RepAll.cut h r (by simpa [MV.lo] using l))
  | _, _, .ref hi, l => .ref (by simpa [MV.lo] using l)
theorem RepAll.cut (h : n ≤ n') : ∀ {v : List MV} {x : List V}, RepAll Y ι n' H v x → loAll n v = true → RepAll Y ι n H v x
  | _, _, .nil, _ => .nil
  | _, _, .cons e t, l => by
    simp only [loAll, Bool.and_eq_true] at l
    exact .cons (Rep.cut h e l.1) (RepAll.cut h t l.2)
end
theorem repC_drop (h : n ≤ n') {a : Addr} {c : Cell} (r : RepC Y ι n' H a c) (l : c.lo n = true) : RepC Y ι n H a c := by
  cases c with
  | lst xs => obtain ⟨vs, e, r⟩ := r; exact ⟨vs, e, r.cut h l⟩
  | dct ep ks xs =>
    obtain ⟨es, e, g, r, r2⟩ := r
    simp only [Cell.lo, Bool.and_eq_true] at l
    exact ⟨es, e, g, r.cut h l.1, r2.cut h l.2⟩
  | st xs => obtain ⟨ys, es, e, pm, g, r⟩ := r; exact ⟨ys, es, e, pm, g, r.cut h (loAll_perm pm l)⟩
  | ins c xs => obtain ⟨dx, ys, e, g, r⟩ := r; exact ⟨dx, ys, e, g, r.cut h l⟩
theorem HR.drop (hr : HR Y ι hm H) (hn : n ≤ hm.length) (o : oldOk n hm = true) : HR Y ι (hm.take n) H where
  inj := fun i j hi hj e => by
    rw [List.length_take] at hi hj
    exact hr.inj i j (by omega) (by omega) e
  cell := fun i c e => by
    have hl : (hm.take n).length = n := by rw [List.length_take]; omega
    rw [hl]
    have hi : i < n := by have := (List.getElem?_eq_some_iff.mp e).1; omega
    have hc : hm[i]? = some c := by rw [List.getElem?_take_of_lt hi] at e; exact e
    exact repC_drop hn (hr.cell i c hc) (List.all_eq_true.mp o c (List.mem_of_getElem? e))
  hid := fun a ha => ⟨(hr.hid a ha).1, fun i hi => (hr.hid a ha).2 i (by rw [List.length_take] at hi; omega)⟩
theorem frz_rep (hr : HR Y ι hm H) (hn : n ≤ hm.length) : ∀ (k : Nat) {v : MV} {x : V}, Rep Y ι hm.length H v x → (frz n hm k v).lo n = true → Rep Y ι n H (frz n hm k v) x
  | 0, v, x, r, l => r.cut hn l
  | k + 1, v, x, r, l => by
    have all : ∀ {xs : List MV} {vs : List V}, RepAll Y ι hm.length H xs vs → loAll n (xs.map (frz n hm k)) = true → RepAll Y ι n H (xs.map (frz n hm k)) vs := by
      intro xs
      induction xs with
      | nil => intro vs r _; cases r; exact .nil
      | cons x xs ih =>
        intro vs r l
        cases r with
        | cons r1 r2 =>
          simp only [List.map_cons, loAll, Bool.and_eq_true] at l ⊢
          exact .cons (frz_rep hr hn k r1 l.1) (ih r2 l.2)
    cases r with
    | tup e r => exact .tup e (all r (by simpa [frz, MV.lo] using l))
    | fl e o r => exact .fl e (o.drop hn) (all r (by simpa [frz, MV.lo] using l))
    | @ref i hi =>
      by_cases hin : i < n
      · simp only [frz, if_pos hin] at l ⊢
        exact .ref hin
      · have off : Off Y ι n (ι i) := ⟨fun z => (hr.hid _ z).2 i hi rfl, fun j hj e => by
          have := hr.inj j i (by omega) hi e
          omega⟩
        cases e : hm[i]? with
        | none =>
          simp only [frz, if_neg hin, e] at l
          simp [MV.lo] at l
          exact absurd l hin
        | some c =>
          have rc := hr.cell i c e
          cases c with
          | lst xs =>
            obtain ⟨vs, h1, r⟩ := rc
            simp only [frz, if_neg hin, e] at l ⊢
            exact .fl h1 off (all r (by simpa [MV.lo] using l))
          | dct ep ks xs =>
            obtain ⟨es, h1, g, r, r2⟩ := rc
            simp only [frz, if_neg hin, e] at l ⊢
            simp only [MV.lo, Bool.and_eq_true] at l
            exact .fd h1 off g (r.cut hn l.1) (all r2 l.2)
          | st xs =>
            simp only [frz, if_neg hin, e] at l
            simp [MV.lo] at l
            exact absurd l hin
          | ins c xs =>
            obtain ⟨dx, ys, h1, g, r⟩ := rc
            simp only [frz, if_neg hin, e] at l ⊢
            exact .fi h1 off g (all r (by simpa [MV.lo] using l))
    | _ => exact Rep.cut hn (by constructor <;> assumption) l
end

abbrev Sem := List MV → MHp → MQ → MQ → Prop
abbrev Md := Nat → MQ → MQ
def mdK : Md := fun _ Q => Q
def mdF : Md := fun n Q v h => n ≤ h.length ∧ oldOk n h = true ∧ (frz n h 8 v).lo n = true ∧ Q (frz n h 8 v) (h.take n)
def mdD : Md := fun n Q v h => n ≤ h.length ∧ oldOk n h = true ∧ v.lo n = true ∧ Q v (h.take n)
def mdC : Md := fun n Q v h => ∃ i xs, v = .ref i ∧ n ≤ i ∧ h[i]? = some (.lst xs) ∧ oldOk n h = true ∧ loAll n xs = true ∧ Q (.ref n) (h.take n ++ [.lst xs])
section
variable {Y : Lay} {ι : Nat → Addr} {n n' i : Nat} {H : Hp} {hm : MHp}
theorem Off.cutH {a : Addr} (h : n ≤ n') (hi : i < n') (o : Off Y ι n' a) : Off (Y.hide (ι i)) ι n a := ⟨fun z => z.elim o.1 fun e => o.2 i hi e.symm, fun j hj => o.2 j (Nat.lt_of_lt_of_le hj h)⟩
mutual
/-- the cells from n on go, the one at i is hidden -/
theorem Rep.cutH (h : n ≤ n') (hi : i < n') : ∀ {v : MV} {x : V}, Rep Y ι n' H v x → v.lo n = true → Rep (Y.hide (ι i)) ι n H v x
  | _, _, .non, _ => .non
  | _, _, .bl b, _ => .bl b
  | _, _, .int i, _ => .int i
  | _, _, .str x, _ => .str x
  | _, _, .tup e r, l => .tup e (RepAll.cutH h hi r (by simpa [MV.lo] using l))
  | _, _, .fl e o r, l => .fl e (o.cutH h hi) (RepAll.cutH h hi r (by simpa [MV.lo] using l))
  | _, _, .sc e o r, l => .sc e (o.cutH h hi) (RepAll.cutH h hi r (by simpa [MV.lo] using l))
  | _, _, .fd e o g r r2, l => by
    simp only [MV.lo, Bool.and_eq_true] at l
    exact .fd e (o.cutH h hi) g (RepAll.cutH h hi r l.1) (RepAll.cutH h hi r2 l.2)
  | _, _, .fs e o p g r, l => .fs e (o.cutH h hi) p g (RepAll.cutH h hi r (loAll_perm p (by simpa [MV.lo] using l)))
  | _, _, .fi e o g r, l => .fi e (o.cutH h hi) g (RepAll.cutH h hi r (by simpa [MV.lo] using l))
  | _, _, .ex0 e o, _ => .ex0 e (o.cutH h hi)
  | _, _, .ex1 e o hd g r, l => .ex1 e (o.cutH h hi) hd g (RepAll.cutH h hi r (by simpa [MV.lo] using l))
  | _, _, .ref _, l => .ref (by simpa [MV.lo] using l)
theorem RepAll.cutH (h : n ≤ n') (hi : i < n') : ∀ {v : List MV} {x : List V}, RepAll Y ι n' H v x → loAll n v = true → RepAll (Y.hide (ι i)) ι n H v x
  | _, _, .nil, _ => .nil
  | _, _, .cons e t, l => by
    simp only [loAll, Bool.and_eq_true] at l
    exact .cons (Rep.cutH h hi e l.1) (RepAll.cutH h hi t l.2)
end
theorem repC_cutH (h : n ≤ n') (hi : i < n') {a : Addr} {c : Cell} (r : RepC Y ι n' H a c) (l : c.lo n = true) : RepC (Y.hide (ι i)) ι n H a c := by
  cases c with
  | lst xs => obtain ⟨vs, e, r⟩ := r; exact ⟨vs, e, r.cutH h hi l⟩
  | dct ep ks xs =>
    obtain ⟨es, e, g, r, r2⟩ := r
    simp only [Cell.lo, Bool.and_eq_true] at l
    exact ⟨es, e, g, r.cutH h hi l.1, r2.cutH h hi l.2⟩
  | st xs => obtain ⟨ys, es, e, pm, g, r⟩ := r; exact ⟨ys, es, e, pm, g, r.cutH h hi (loAll_perm pm l)⟩
  | ins c xs => obtain ⟨dx, ys, e, g, r⟩ := r; exact ⟨dx, ys, e, g, r.cutH h hi l⟩
theorem HR.cutH (hr : HR Y ι hm H) (hn : n ≤ i) (hi : i < hm.length) (o : oldOk n hm = true) : HR (Y.hide (ι i)) ι (hm.take n) H where
  inj := (hr.drop (Nat.le_of_lt (Nat.lt_of_le_of_lt hn hi)) o).inj
  cell := fun j c e => by
    have hl : (hm.take n).length = n := by rw [List.length_take]; omega
    rw [hl]
    have hj : j < n := by have := (List.getElem?_eq_some_iff.mp e).1; omega
    have hc : hm[j]? = some c := by rw [List.getElem?_take_of_lt hj] at e; exact e
    exact repC_cutH (by omega) hi (hr.cell j c hc) (List.all_eq_true.mp o c (List.mem_of_getElem? e))
  hid := fun a ha => by
    rcases ha with ha | rfl
    · exact ⟨(hr.hid a ha).1, fun j hj => (hr.hid a ha).2 j (by rw [List.length_take] at hj; omega)⟩
    · obtain ⟨u, hu, _⟩ := hr.live i hi
      exact ⟨⟨u, hu⟩, fun j hj e => by
        rw [List.length_take] at hj
        have := hr.inj j i (by omega) hi e
        omega⟩
end
section
variable {Y : Lay} {ι ι' : Nat → Addr} {n : Nat} {H H' : Hp} {h : MHp}
theorem Ext.take (e : Ext n h.length ι ι' H H') : Ext n (h.take n).length ι ι' H H' := by
  have hl : (h.take n).length = n := by have := e.le; rw [List.length_take]; omega
  rw [hl]
  exact ⟨Nat.le_refl _, e.same, e.keep, fun i h1 h2 => absurd h1 (by omega)⟩
def MdOk (md : Md) : Prop := ∀ (Y : Lay) (ι ι' : Nat → Addr) (n : Nat) (H H' : Hp) (h : MHp) (Q : MQ) (v : MV) (x : V), HR Y ι' h H' → Ext n h.length ι ι' H H' → Rep Y ι' h.length H' v x → md n Q v h →
  ∃ ι2 h2 v2, HR Y ι2 h2 H' ∧ Ext n h2.length ι ι2 H H' ∧ Rep Y ι2 h2.length H' v2 x ∧ Q v2 h2
theorem mdK_ok : MdOk mdK := fun Y ι ι' n H H' h Q v x hr e r q => ⟨ι', h, v, hr, e, r, q⟩
theorem mdF_ok : MdOk mdF := fun Y ι ι' n H H' h Q v x hr e r ⟨hn, ho, hl, q⟩ => ⟨ι', h.take n, _, hr.drop hn ho, e.take, by
  have hl' : (h.take n).length = n := by rw [List.length_take]; omega
  rw [hl']
  exact frz_rep hr hn 8 r hl, q⟩
theorem mdC_ok : MdOk mdC := fun Y ι ι' n H H' h Q v x hr e r ⟨i, xs, ev, hn, hc, ho, hl, q⟩ => by
  subst ev
  cases r with
  | ref hi =>
    have hle := e.le
    obtain ⟨vs, hv, ra⟩ := hr.cell i _ hc
    have hl' : (h.take n).length = n := by rw [List.length_take]; omega
    have hr2 := hr.cutH hn hi ho
    have nh : ¬ Y.hid (ι' i) := fun z => (hr.hid _ z).2 i hi rfl
    have hr3 := hr2.prom (c := .lst xs) nh ⟨vs, hv, by rw [hl']; exact ra.cutH hle hi hl⟩
    refine ⟨_, _, _, hr3, ?_, ?_, q⟩
    · have e2 := e.take
      rw [hl'] at e2
      refine Ext.prom (hm := h.take n) (by rw [hl']; exact Nat.le_refl _) (by rw [hl']; exact e2) (e.fresh i hn hi)
    · have z := Rep.ref (Y := Y) (ι := snocι ι' n (ι' i)) (n := (h.take n ++ [Cell.lst xs]).length) (H := H') (i := n) (by rw [List.length_append, hl']; exact Nat.lt_succ_self _)
      rw [snocι_at] at z
      rw [hl']
      exact z
def MxOk (md : Md) : Prop := ∀ (Y : Lay) (ι ι' : Nat → Addr) (n : Nat) (H H' : Hp) (h : MHp) (Q : MQ) (v : MV) (c : Value) (d : Option Addr), HR Y ι' h H' → Ext n h.length ι ι' H H' → RepX Y ι' h.length H' v c d → md n Q v h →
  ∃ ι2 h2 v2, HR Y ι2 h2 H' ∧ Ext n h2.length ι ι2 H H' ∧ RepX Y ι2 h2.length H' v2 c d ∧ Q v2 h2
theorem mdK_okx : MxOk mdK := fun Y ι ι' n H H' h Q v c d hr e r q => ⟨ι', h, v, hr, e, r, q⟩
theorem mdD_okx : MxOk mdD := fun Y ι ι' n H H' h Q v c d hr e r ⟨hn, ho, hl, q⟩ => ⟨ι', h.take n, _, hr.drop hn ho, e.take, by
  have hl' : (h.take n).length = n := by rw [List.length_take]; omega
  rw [hl']
  obtain ⟨cc, xs, rfl, ec, hd⟩ := r
  refine ⟨cc, xs, rfl, ec, hd.imp id fun ⟨dd, fs, ys, e1, e2, e3, e4⟩ => ⟨dd, fs, ys, e1, e2, e3, e4.cut hn (by simpa [MV.lo] using hl)⟩⟩, q⟩
end

def startM (ns : Nat) (vs : List MV) : MSt := vs.map some ++ List.replicate (ns - vs.length) none
def mFn (md mx : Md) (np ns : Nat) (m : MS) : Sem := fun vs h Q E => vs.length = np ∧ m (startM ns vs) h { nx := fun _ h' => md h.length Q .non h', rt := md h.length Q, ex := fun e _ h' => mx h.length E e h' }

structure RoomG (k : Nat) (A : Around) : Prop where
  rm : Room k A
  gd : A.guards = some []
theorem RoomG.mono {j k : Nat} {A : Around} (r : RoomG k A) (h : j ≤ k) : RoomG j A := ⟨r.rm.mono h, r.gd⟩
theorem RoomG.deeper {k : Nat} {A : Around} (r : RoomG (k + 1) A) (env : Env) : RoomG k (A.deeper env) := ⟨r.rm.deeper env, r.gd⟩
def TrK (Y : Lay) (ι : Nat → Addr) (n : Nat) (H : Hp) (Em : MQ) (E : XK) : Prop :=
  ∀ e h' ι' H' cls d, HR Y ι' h' H' → Ext n h'.length ι ι' H H' → RepX Y ι' h'.length H' e cls d → Em e h' → E cls d H'
structure FnG (Y : Lay) (P : Program) (w : World) (K : PySem.W.Frag) (mg : Str → Option Value) (base : Heap) (k : Nat) (f : Addr) (fd : FuncData) (ps : List Str) (sem : Sem) : Prop where
  len : ∀ vs h Q E, sem vs h Q E → vs.length = ps.length
  run : ∀ (hid : Addr → Prop) (A : Around) (outer : List Env) (s : Shared) (H : Hp) (args : Args) (us : List Value) (vs : List V) (Q : VK) (E : XK) (ι : Nat → Addr) (hm : MHp) (ws : List MV) (Qm Em : MQ), RoomG k A → Env0 P w K mg base A outer s H → BindsTo s fd args (ps.zip us) → Vals vs us →
    HR (Y.re hid) ι hm H → RepAll (Y.re hid) ι hm.length H ws vs → sem ws hm Qm Em → TrQ (Y.re hid) ι hm.length H Qm Q → TrK (Y.re hid) ι hm.length H Em E →
    codeAny (model P w) A (.call (.ref f) args) (CR (CX P w) outer P w H s Q E) s
theorem FnG.mono {Y : Lay} {P : Program} {w : World} {K : PySem.W.Frag} {mg : Str → Option Value} {base : Heap} {j k : Nat} {f : Addr} {fd : FuncData} {ps : List Str} {sem : Sem} (F : FnG Y P w K mg base j f fd ps sem) (h : j ≤ k) : FnG Y P w K mg base k f fd ps sem :=
  ⟨F.len, fun hid A outer s H args us vs Q E ι hm ws Qm Em hr => F.run hid A outer s H args us vs Q E ι hm ws Qm Em (hr.mono h)⟩
theorem FnG.imp {Y : Lay} {P : Program} {w : World} {K : PySem.W.Frag} {mg : Str → Option Value} {base : Heap} {k : Nat} {f : Addr} {fd : FuncData} {ps : List Str} {sem sem' : Sem} (F : FnG Y P w K mg base k f fd ps sem) (i : ∀ vs h Q E, sem' vs h Q E → sem vs h Q E) : FnG Y P w K mg base k f fd ps sem' :=
  ⟨fun vs h Q E q => F.len vs h Q E (i _ _ _ _ q), fun hid A outer s H args us vs Q E ι hm ws Qm Em hr e0 hb r h1 h2 q => F.run hid A outer s H args us vs Q E ι hm ws Qm Em hr e0 hb r h1 h2 (i _ _ _ _ q)⟩

theorem rs_start {Y : Lay} {ι : Nat → Addr} {n : Nat} {H : Hp} {ws : List MV} {vs : List V} {N : List Str} {ns : Nat} (hN : N.length = ns) (r : RepAll Y ι n H ws vs) : RS Y ι n H (startM ns ws) (L2.start N vs) := by
  unfold startM L2.start
  refine ⟨by simp [r.length, hN], fun i v e => ?_⟩
  by_cases hi : i < ws.length
  · rw [List.getElem?_append_left (by simpa using hi), List.getElem?_map] at e
    cases e1 : ws[i]? with
    | none => rw [e1] at e; cases e
    | some a =>
      rw [e1] at e
      cases e
      obtain ⟨b, hb, rb⟩ := r.get e1
      refine ⟨b, ?_, rb⟩
      rw [List.getElem?_append_left (by simpa [← r.length] using hi), List.getElem?_map, hb]
      rfl
  · rw [List.getElem?_append_right (by simpa using hi), List.getElem?_replicate] at e
    split at e <;> cases e

theorem fn_ofM {Y : Lay} {P : Program} {w : World} {K : PySem.W.Frag} {mg : Str → Option Value} {base : Heap} {k : Nat} {f : Addr} {name qual : Str} {params : Arguments} {body : List Stmt} {scope : Scope} {dV kV doc pm cdv ct oc : Value} {an od : Option Addr}
    {osl : Array (Option Value)} {N ps : List Str} {np ns : Nat} {m : MS} {md mx : Md} (lk : K.lookup f = some ⟨oc, od, .func (PySem.W.fnOf name qual params body scope dV kV doc pm an cdv ct), osl⟩) (hcd : PySem.W.codeIn K cdv qual = true) (S : FnScope N ps scope)
    (hnp : ps.length = np) (hns : N.length = ns) (hmd : MdOk md) (hmx : MxOk mx)
    (hbody : ∀ (hid : Addr → Prop) (A : Around) (outer : List Env) (s : Shared) (H : Hp) (E : XK), RoomG k (A.deeper (envOfC qual scope s.heap.objs.size f cdv)) →
      SSs (Y.re hid) (fun c d _ H' => E c d H') (cxOf (CX P w) P w K mg base N qual scope f cdv A outer s H E) m body) :
    FnG Y P w K mg base (k + 1) f (PySem.W.fnOf name qual params body scope dV kV doc pm an cdv ct) ps (mFn md mx np ns m) := by
  refine ⟨fun vs h Q E q => q.1.trans hnp.symm, fun hid A outer s H args us vs Q E ι hm ws Qm Em hr e0 hb r hR hA hsem tq tx => ?_⟩
  have hl : vs.length = ps.length := by rw [← hA.length, hsem.1, hnp]
  have KX : K.In s.heap := e0.mod.kin.keeps fun b o e => (e0.bs b o e).1
  have lim : s.heap.NoLimit := e0.mod.nolimit.keeps fun b o e => (e0.bs b o e).1
  have hkind : ∀ y ∈ ps.zip us, scope.names.lookup y.1 = some .local ∨ (scope.names.lookup y.1 = some .cell ∧ ((cellsFrom (s.heap.objs.size + 1) scope.names []).lookup y.1).isSome = true) := fun ⟨n, v⟩ hy => by
    rcases S.par n (List.of_mem_zip hy).1 with q | q
    · exact .inl q
    · exact .inr ⟨q, PySem.W.cellsFrom_some _ _ _ (.inl q)⟩
  refine codeAny_call_function hr.rm.depth (KX _ _ lk) rfl S.co S.gen rfl (PySem.W.codeRec_of KX hcd) (hb _ _ _ _ ?_)
  refine wpAny_newFunctionEnv_cells S.kind hkind fun env he s1 x => ?_
  subst he
  refine ⟨lim.keeps x.toInCall.keep, codeAny_func ?_⟩
  have I : Inv (cxOf (CX P w) P w K mg base N qual scope f cdv A outer s H E) [] (L2.start N vs) H s1 := inv_start S hr.rm.hd e0 hl r x
  have tmd : TrQ (Y.re hid) ι hm.length H (md hm.length Qm) Q := fun v h' ι' H' x hr' ex rv q => by
    obtain ⟨ι2, h2, v2, a1, a2, a3, a4⟩ := hmd _ ι ι' hm.length H H' h' Qm v x hr' ex rv q
    exact tq v2 h2 ι2 H' x a1 a2 a3 a4
  refine wpAny_mono ((hbody hid A outer s H E (hr.deeper _)).run [] s1 (L2.start N vs) H { nx := fun _ H' => Q .non H', rt := Q } I
    ⟨ι, startM ns ws, hm, _, hR, rs_start hns hA, hsem.2, fun sm' h' ι' H' s' hr' ex rs q => tmd .non h' ι' H' .non hr' ex .non q, tmd, fun _ _ _ _ _ _ _ _ z => z.elim, fun _ _ _ _ _ _ _ _ z => z.elim,
      fun e sm' h' ι' H' s' c d hr' ex rs rx q => by
        obtain ⟨ι2, h2, v2, a1, a2, a3, a4⟩ := hmx _ ι ι' hm.length H H' h' Em e c d hr' ex rx q
        exact tx v2 h2 ι2 H' c d a1 a2 a3 a4⟩)
    (fun fl s' hs => ?_) fun e s' hs => hs
  have fin : ∀ {σ' : L2.St} {H' : Hp} {v : V} {u : Value}, Inv (cxOf (CX P w) P w K mg base N qual scope f cdv A outer s H E) [] σ' H' s' → RelV v u → Q v H' → CE outer P w H s Q u s' :=
    fun {σ' H' v u} J rv q => ⟨v, H', J.os, J.bare, J.base, J.hok, rv, q⟩
  cases fl with
  | ret u =>
    obtain ⟨v, σ', H', J, rv, q⟩ := hs
    exact fin J rv q
  | next =>
    obtain ⟨σ', H', J, q⟩ := hs
    exact fin (v := V.non) (u := Value.none) J rfl q
  | brk =>
    obtain ⟨_, _, _, q⟩ := hs
    exact False.elim q
  | cont =>
    obtain ⟨_, _, _, q⟩ := hs
    exact False.elim q

def mCall (sem : Sem) (a : MA) : ME := fun s h Q E => a s h (fun vs h1 => sem vs h1 Q E) E
section
variable {X : Cx} {W : WX} {Y Y0 : Lay} {k : Nat} {f : Addr} {fd : FuncData} {ps : List Str} {sem : Sem} {a : MA} {x : Str} {p pos : Pos} {e : Expr} {es : List Expr}
theorem run_fnM {pins : List (Addr × Obj)} {σ : L2.St} {H : Hp} {s : Shared} {Q : VK} {us : List Value} {vs : List V} {ι : Nat → Addr} {hm : MHp} {ws : List MV} {Qm Em : MQ} (hy : Y = Y0.re Y.hid) (F : FnG Y0 X.prog X.w X.K X.mg X.base k f fd ps sem) (hr : RoomG k X.A) (tk : Takes X W) (hb : Binds X.K fd ps [])
    (I : Inv X pins σ H s) (r : Vals vs us) (hR : HR Y ι hm H) (hA : RepAll Y ι hm.length H ws vs) (h : sem ws hm Qm Em) (tq : TrQ Y ι hm.length H Qm Q) (tx : TrX Y ι hm.length H σ Em W) : wpAny (model X.prog X.w) X.A (call (.ref f) us) (EP X pins σ Q) X.xe s := by
  have hl : (us ++ []).length = ps.length := by rw [List.append_nil, ← r.length, ← hA.length]; exact F.len _ _ _ _ h
  have hb' := hb s us I.kIn hl
  rw [List.append_nil] at hb'
  refine wpAny_call (codeAny_mono (F.run Y.hid X.A X.stack s H ⟨us, []⟩ us vs Q (fun c d H' => W c d σ H') ι hm ws Qm Em hr I.env0 hb' r (hy ▸ hR) (hy ▸ hA) h (hy ▸ tq) (hy ▸ fun e h' ι' H' c d a1 a2 a3 a4 => tx e h' ι' H' c d a1 a2 a3 a4)) fun r s' hq => ?_)
  cases r with
  | error e => exact tk _ _ (XE.of_call I (fun _ _ _ w => w) hq)
  | ok fl =>
    cases fl with
    | ret u => exact I.after hq
    | next => exact False.elim hq
    | brk => exact False.elim hq
    | cont => exact False.elim hq
theorem sn_call (F : FnG Y0 X.prog X.w X.K X.mg X.base k f fd ps sem) (hr : RoomG k X.A) (tk : Takes X W) (hg : Gl X x) (hm : X.mg x = some (.ref f)) (hk : PySem.W.keepIn X.K (.ref f) = true) (hb : Binds X.K fd ps []) (ha : SA Y W X a (e :: es)) (hy : Y = Y0.re Y.hid := by rfl)
    (hdb : (x == ("__debug__" : Str)) = false := by decide) (he : starEach (e :: es) X.env = (false, eval e X.env) :: starEach es X.env := by rfl) (hpl : (backTo pos (starEach es X.env)).any (·.1) = false := by rfl) :
    SE Y W X (mCall sem a) (.Call (.Name x p) (e :: es) [] pos) := by
  refine ⟨fun pins s σ H Q I h => ?_⟩
  obtain ⟨ι, sm, hm', Qm, Em, hR, rs, q, tq, tx⟩ := h
  refine wpAny_Call_Name_kw (ld_glob I hg hm ?_ hdb)
  refine PySem.W.callWith_K (h₀ := X.base) I.ok.mod.kin hk (thn (ha.run pos pins s σ H (fun vs H1 => ∃ ι1 h1 ws, HR Y ι1 h1 H1 ∧ Ext hm'.length h1.length ι ι1 H H1 ∧ RepAll Y ι1 h1.length H1 ws vs ∧ sem ws h1 Qm Em) I
    ⟨ι, sm, hm', _, Em, hR, rs, q, fun vs h1 ι1 H1 xs hr1 e1 r1 q1 => ⟨ι1, h1, vs, hr1, e1, r1, q1⟩, tx⟩) fun us s1 ⟨vs, H1, I1, r, ι1, h1, ws, hr1, e1, r1, q1⟩ => ⟨I1.kIn, ?_⟩) he hpl
  exact run_fnM hy F hr tk hb I1 r hr1 r1 q1 (tq.mono e1 hR.live hr1.live) (tx.mono e1 hR.live hr1.live)
end
end Mini
namespace Mini
open PySem PySem.Spec PyProof.Rows L2

def ixV (h : MHp) (v u : MV) : Option MV := match u with
  | .int i => (seqOf h v).bind fun xs => atI xs i
  | _ => none
def ixM (v u : MV) (h : MHp) (Q : MQ) : Prop := ∃ x, ixV h v u = some x ∧ Q x h
theorem RepAll.atI {Y : Lay} {ι : Nat → Addr} {n : Nat} {H : Hp} {xs : List MV} {vs : List V} {i : Int} {x : MV} (r : RepAll Y ι n H xs vs) (h : L2.atI xs i = some x) : ∃ y, L2.atI vs i = some y ∧ Rep Y ι n H x y := by
  unfold L2.atI at h ⊢
  rw [← r.length]
  cases e : ixN xs.length i with
  | none => rw [e] at h; cases h
  | some j =>
    rw [e] at h
    exact r.get h
section
variable {Y : Lay} {W : WX} {X : Cx} {a b : ME} {ea eb : Expr} {pos : Pos}
theorem ix_M : IxR X (R2M Y ixM) := by
  intro value slice pins s σ H x y v' u' Q I rx ry ⟨ι, hm, v, u, Qm, hr, rv, ru, ⟨z, e, q⟩, tq⟩ hs
  unfold ixV at e
  cases ru with
  | int i =>
    cases e2 : seqOf hm v with
    | none => simp [e2] at e
    | some xs =>
      simp only [e2, Option.bind_some] at e
      obtain ⟨p, vs, rfl, sq, ra⟩ := seqOf_rep X.K hr rv e2
      obtain ⟨y, hy, ry'⟩ := ra.atI e
      rcases sq with sq | sq
      · exact ix_list value slice pins s σ H _ _ v' u' Q I rx ry ⟨p, vs, i, y, rfl, rfl, sq, hy, tq.here hr ry' q⟩ hs
      · exact ix_tup value slice pins s σ H _ _ v' u' Q I rx ry ⟨p, vs, i, y, rfl, rfl, sq, hy, tq.here hr ry' q⟩ hs
  | _ => simp at e
theorem sn_ix (ha : SE Y W X a ea) (hb : SE Y W X b eb) (hs : PlainIx eb := by intro _ _; rfl) : SE Y W X (mOp2 ixM a b) (.Subscript ea eb pos) :=
  peI (pe_ix ix_M ha hb hs) fun s H Q h => tM_op2 h
end

abbrev MO := MSt → MHp → (Option Int → MHp → Prop) → MQ → Prop
def pNo : MO := fun _ h Q _ => Q none h
def pAt (a : ME) : MO := fun s h Q E => a s h (fun v h1 => ∃ i, v = .int i ∧ Q (some i) h1) E
def cutM {α : Type} (xs : List α) (lo hi : Option Int) : List α := (xs.drop (HT.sIx xs.length 0 lo)).take (HT.sIx xs.length xs.length hi - HT.sIx xs.length 0 lo)
def slM (v : MV) (lo hi : Option Int) (h : MHp) (Q : MQ) : Prop := match v with
  | .tup xs => Q (.tup (cutM xs lo hi)) h
  | v => ∃ xs, lstOf h v = some xs ∧ Q (.fl (cutM xs lo hi)) h
def slMC (v : MV) (lo hi : Option Int) (h : MHp) (Q : MQ) : Prop := ∃ xs, lstOf h v = some xs ∧ Q (.ref h.length) (h ++ [.lst (cutM xs lo hi)])
def mSl (r : MV → Option Int → Option Int → MHp → MQ → Prop) (a : ME) (l u : MO) : ME := fun s h Q E => a s h (fun v h1 => l s h1 (fun lo h2 => u s h2 (fun hi h3 => r v lo hi h3 Q) E) E) E
section
variable {Y : Lay} {W : WX} {X : Cx} {a : ME} {l u : MO} {e : Expr} {lo hi : Option Expr} {pos p2 : Pos}
def tMO (Y : Lay) (W : WX) (m : MO) : TO := fun s H Q => ∃ ι sm hm Qm Em, HR Y ι hm H ∧ RS Y ι hm.length H sm s ∧ m sm hm Qm Em ∧ (∀ o h' ι' H', HR Y ι' h' H' → Ext hm.length h'.length ι ι' H H' → Qm o h' → Q o H') ∧ TrX Y ι hm.length H s Em W
abbrev SO (Y : Lay) (W : WX) (X : Cx) (m : MO) (o : Option Expr) : Prop := PO X o (tMO Y W m)
theorem poI {X : Cx} {o : Option Expr} {t t' : TO} (h : PO X o t) (i : ∀ s H Q, t' s H Q → t s H Q) : PO X o t' := ⟨fun pins s σ H Q I q => h.run pins s σ H Q I (i _ _ _ q)⟩
theorem so_no : SO Y W X pNo none := poI po_none fun s H Q ⟨ι, sm, hm, Qm, Em, hr, rs, q, tq, tx⟩ => tq _ _ _ _ hr .refl q
theorem so_at (h : SE Y W X a e) : SO Y W X (pAt a) (some e) := poI (po_some h) fun s H Q ⟨ι, sm, hm, Qm, Em, hr, rs, q, tq, tx⟩ => by
  refine ⟨ι, sm, hm, _, Em, hr, rs, q, fun v h1 ι1 H1 x hr1 e1 r1 ⟨i, ev, q1⟩ => ?_, tx⟩
  subst ev
  cases r1
  exact ⟨i, rfl, tq _ _ _ _ hr1 e1 q1⟩
theorem RepAll.cutM {ι : Nat → Addr} {n : Nat} {H : Hp} {xs : List MV} {vs : List V} (r : RepAll Y ι n H xs vs) (lo hi : Option Int) : RepAll Y ι n H (cutM xs lo hi) (cutV vs lo hi) := by
  unfold Mini.cutM cutV
  rw [r.length]
  exact (r.drop _).take _
def SlM (r : MV → Option Int → Option Int → MHp → MQ → Prop) (Y : Lay) : V → Option Int → Option Int → Hp → VK → Prop := fun x lo hi H Q => ∃ ι hm v Qm, HR Y ι hm H ∧ Rep Y ι hm.length H v x ∧ r v lo hi hm Qm ∧ TrQ Y ι hm.length H Qm Q
theorem slI {X : Cx} {r r' : V → Option Int → Option Int → Hp → VK → Prop} (h : SlR X r) (i : ∀ x lo hi H Q, r' x lo hi H Q → r x lo hi H Q) : SlR X r' := fun pins s σ H x v vl vu lo hi sl Q I rx hs pl pu q => h pins s σ H x v vl vu lo hi sl Q I rx hs pl pu (i _ _ _ _ _ q)
theorem sl_M : SlR X (SlM slM Y) := by
  refine slI (sl_tupA.or sl_list) fun x lo hi H Q ⟨ι, hm, v, Qm, hr, rv, q, tq⟩ => ?_
  have lst : (∃ xs, lstOf hm v = some xs ∧ Qm (.fl (cutM xs lo hi)) hm) → rSlL X.K x lo hi H Q := fun ⟨xs, e, q⟩ => by
    obtain ⟨p, vs, rfl, sq, ra⟩ := lstOf_rep X.K hr rv e
    exact ⟨p, vs, rfl, sq, fun p hp => tq.newL hr (ra.cutM lo hi) q hp⟩
  cases v with
  | tup xs =>
    cases rv with
    | @tup _ vs a e ra =>
      refine .inl ?_
      have rc := ra.cutM lo hi
      refine ⟨a, vs, rfl, SqT.of e, fun hw => ?_, fun _ p hp => tq.newT hr rc q hp⟩
      have z : cutM xs lo hi = xs := by
        unfold cutM
        rw [ra.length, hw.1, hw.2, ← ra.length]
        simp
      have q' : Qm (.tup (cutM xs lo hi)) hm := q
      rw [z] at q'
      exact tq.here hr (.tup e ra) q'
  | _ => exact .inr (lst q)
theorem sn_sl {r : MV → Option Int → Option Int → MHp → MQ → Prop} (h : SlR X (SlM r Y)) (he : SE Y W X a e) (hl : SO Y W X l lo) (hu : SO Y W X u hi) : SE Y W X (mSl r a l u) (.Subscript e (.Slice lo hi none p2) pos) :=
  peI (pe_slice h he hl hu) fun s H Q ⟨ι, sm, hm, Qm, Em, hr, rs, q, tq, tx⟩ => by
    refine ⟨ι, sm, hm, _, Em, hr, rs, q, fun v h1 ι1 H1 x hr1 e1 r1 q1 => ?_, tx⟩
    refine ⟨ι1, sm, h1, _, Em, hr1, rs.mono e1 hr.live, q1, fun lo h2 ι2 H2 hr2 e2 q2 => ?_, tx.mono e1 hr.live hr1.live⟩
    have e12 := e1.trans e2 hr.live hr1.live
    refine ⟨ι2, sm, h2, _, Em, hr2, rs.mono e12 hr.live, q2, fun hi h3 ι3 H3 hr3 e3 q3 => ?_, tx.mono e12 hr.live hr2.live⟩
    have e13 := e12.trans e3 hr.live hr2.live
    exact ⟨ι3, h3, v, Qm, hr3, (r1.mono e2 hr1.live).mono e3 hr2.live, q3, tq.mono e13 hr.live hr3.live⟩
end

section
variable {Y : Lay} {ι : Nat → Addr} {hm : MHp} {H : Hp}
theorem Ext.cell {n i : Nat} (hi : i < n) (o : HO) : Ext n n ι ι H (upd H (ι i) o) :=
  ⟨Nat.le_refl _, fun _ _ => rfl, fun a u e ho => by rw [upd_ne (fun z => ho i hi z.symm)]; exact e, fun j h1 h2 => absurd h1 (by omega)⟩
theorem HR.setCell {i : Nat} {c : Cell} {o : HO} (hr : HR Y ι hm H) (hi : i < hm.length) (rc : RepC Y ι hm.length (upd H (ι i) o) (ι i) c) : HR Y ι (hm.set i c) (upd H (ι i) o) where
  inj := by rw [List.length_set]; exact hr.inj
  cell := fun j d e => by
    rw [List.length_set]
    by_cases hj : i = j
    · subst hj
      rw [List.getElem?_set_self hi] at e
      cases e
      exact rc
    · rw [List.getElem?_set_ne hj] at e
      have hjl := (List.getElem?_eq_some_iff.mp e).1
      exact repC_mono (Ext.cell hi o) hr.live (fun u hu _ => by rw [upd_ne fun z => hj (hr.inj i j hi hjl z.symm)]; exact hu) (hr.cell j d e)
  hid := fun a ha => by
    obtain ⟨⟨u, hu⟩, h2⟩ := hr.hid a ha
    rw [List.length_set]
    exact ⟨⟨u, by rw [upd_ne fun z => h2 i hi z.symm]; exact hu⟩, h2⟩
theorem TrQ.setL {Qm : MQ} {Q : VK} {i : Nat} {v : MV} {x : V} {xs : List MV} {vs : List V} (t : TrQ Y ι hm.length H Qm Q) (hr : HR Y ι hm H) (hi : i < hm.length) (rv : Rep Y ι hm.length H v x) (r : RepAll Y ι hm.length H xs vs) (q : Qm v (hm.set i (.lst xs))) : Q x (upd H (ι i) (.lst vs)) := by
  have e := Ext.cell (ι := ι) (H := H) hi (.lst vs)
  have e' : Ext hm.length (hm.set i (.lst xs)).length ι ι H (upd H (ι i) (.lst vs)) := by rw [List.length_set]; exact e
  exact t v (hm.set i (.lst xs)) ι _ x (hr.setCell hi ⟨vs, upd_same, r.mono e hr.live⟩) e' (by rw [List.length_set]; exact rv.mono e hr.live) q
end
def cellOf (h : MHp) : MV → Option (Nat × List MV)
  | .ref n => match h[n]? with
    | some (.lst xs) => some (n, xs)
    | _ => none
  | _ => none
theorem cellOf_rep {Y : Lay} {ι : Nat → Addr} {hm : MHp} {H : Hp} {v : MV} {x : V} {n : Nat} {xs : List MV} (hr : HR Y ι hm H) (r : Rep Y ι hm.length H v x) (h : cellOf hm v = some (n, xs)) :
    v = .ref n ∧ n < hm.length ∧ x = .ref (ι n) ∧ ∃ vs, H (ι n) = some (.lst vs) ∧ RepAll Y ι hm.length H xs vs := by
  unfold cellOf at h
  cases r with
  | @ref i hi =>
    cases e : hm[i]? with
    | none => simp [e] at h
    | some c =>
      simp only [e] at h
      cases c with
      | lst ys =>
        cases h
        exact ⟨rfl, hi, rfl, hr.cell _ _ e⟩
      | _ => cases h
  | _ => simp at h

def gIx (o i : ME) : MG := fun v s h Q E => o s h (fun x h1 => i s h1 (fun k h2 => ∃ n xs j m, cellOf h2 x = some (n, xs) ∧ k = .int j ∧ ixN xs.length j = some m ∧ Q s (h2.set n (.lst (xs.set m v)))) E) E
section
variable {Y : Lay} {W : WX} {X : Cx} {o i : ME} {eo ei : Expr} {pos : Pos}
theorem sg_ix (ho : SE Y W X o eo) (hi : SE Y W X i ei)
    (ha : ∀ v, assign (.Subscript eo ei pos) X.env v = (do
      let ov ← holding [v] (eval eo X.env)
      let iv ← holding [v, ov] (eval ei X.env)
      standAt pos
      holding [v, ov, iv] (setItem ov iv v)
      release [v, ov, iv] []) := by intro _; rfl) : SG Y W X (gIx o i) (.Subscript eo ei pos) :=
  psgI (pg_sub ho hi set_list ha) fun x s H Q ⟨ι, sm, hm, v, Qm, Em, hr, rs, r, q, tq, tx⟩ => by
    refine ⟨ι, sm, hm, _, Em, hr, rs, q, fun y h1 ι1 H1 oy hr1 e1 r1 q1 => ?_, tx⟩
    refine ⟨ι1, sm, h1, _, Em, hr1, rs.mono e1 hr.live, q1, fun k h2 ι2 H2 kv hr2 e2 r2 q2 => ?_, tx.mono e1 hr.live hr1.live⟩
    obtain ⟨n, xs, j, m, hc, rfl, hj, q2⟩ := q2
    cases r2
    obtain ⟨rfl, hn, rfl, vs, hv, ra⟩ := cellOf_rep hr2 (r1.mono e2 hr1.live) hc
    have e12 := e1.trans e2 hr.live hr1.live
    have hvr := r.mono e12 hr.live
    refine ⟨_, vs, j, m, rfl, rfl, hv, by rw [← ra.length]; exact hj, ?_⟩
    have e3 := Ext.cell (ι := ι2) (H := H2) hn (.lst (vs.set m x))
    have e3' : Ext h2.length (h2.set n (.lst (xs.set m v))).length ι2 ι2 H2 (upd H2 (ι2 n) (.lst (vs.set m x))) := by rw [List.length_set]; exact e3
    refine tq sm _ ι2 _ s (hr2.setCell (c := .lst (xs.set m v)) hn ⟨_, upd_same, (ra.set hvr m).mono e3 hr2.live⟩) (e12.trans e3' hr.live hr2.live) ?_ q2
    rw [List.length_set]
    exact (rs.mono e12 hr.live).mono e3 hr2.live
end

def mB (op : List MV → MHp → MQ → Prop) (a : MA) : ME := fun s h Q E => a s h (fun vs h1 => op vs h1 Q) E
section
variable {Y : Lay} {W : WX} {X : Cx} {op : List MV → MHp → MQ → Prop} {a : MA} {x : Str} {p pos : Pos} {e : Expr} {es : List Expr} {id T : String}
theorem tM_B {s : L2.St} {H : Hp} {Q : VK} (h : tM Y W (mB op a) s H Q) : tCB (RNM Y op) (tMA Y W a) s H Q := by
  obtain ⟨ι, sm, hm, Qm, Em, hr, rs, q, tq, tx⟩ := h
  exact ⟨ι, sm, hm, _, Em, hr, rs, q, fun vs h1 ι1 H1 xs hr1 e1 r1 q1 => ⟨ι1, h1, vs, Qm, hr1, r1, q1, tq.mono e1 hr.live hr1.live⟩, tx⟩
theorem sn_B (hc : CallR X (.builtin id) (RNM Y op)) (hg : Gl X x) (hm : X.mg x = none) (ha : SA Y W X a (e :: es)) (hv : bootBuiltins x = some (.builtin id) := by rfl) (hn : x ≠ "__name__" := by decide) (hdb : (x == ("__debug__" : Str)) = false := by decide)
    (he : starEach (e :: es) X.env = (false, eval e X.env) :: starEach es X.env := by rfl) (hpl : (backTo pos (starEach es X.env)).any (·.1) = false := by rfl) : SE Y W X (mB op a) (.Call (.Name x p) (e :: es) [] pos) :=
  peI (pe_callB hc hg hm hv ha hn hdb he hpl) fun s H Q h => tM_B h
theorem sn_T (hc : CallR X (.type T) (RNM Y op)) (hg : Gl X x) (hm : X.mg x = none) (ha : SA Y W X a (e :: es)) (hv : bootBuiltins x = some (.type T) := by rfl) (hn : x ≠ "__name__" := by decide) (hdb : (x == ("__debug__" : Str)) = false := by decide)
    (he : starEach (e :: es) X.env = (false, eval e X.env) :: starEach es X.env := by rfl) (hpl : (backTo pos (starEach es X.env)).any (·.1) = false := by rfl) : SE Y W X (mB op a) (.Call (.Name x p) (e :: es) [] pos) :=
  peI (pe_callTy hc hg hm hv ha hn hdb he hpl) fun s H Q h => tM_B h
theorem crI {f : Value} {r r' : List V → Hp → VK → Prop} (h : CallR X f r) (i : ∀ xs H Q, r' xs H Q → r xs H Q) : CallR X f r' := fun pins s σ H xs us Q I rx q => h pins s σ H xs us Q I rx (i _ _ _ q)
theorem rep1 {ι : Nat → Addr} {n : Nat} {H : Hp} {v : MV} {xs : List V} (r : RepAll Y ι n H [v] xs) : ∃ x, xs = [x] ∧ Rep Y ι n H v x := by
  cases r with
  | cons r t => cases t; exact ⟨_, rfl, r⟩
theorem rep2 {ι : Nat → Addr} {n : Nat} {H : Hp} {v u : MV} {xs : List V} (r : RepAll Y ι n H [v, u] xs) : ∃ x y, xs = [x, y] ∧ Rep Y ι n H v x ∧ Rep Y ι n H u y := by
  cases r with
  | cons r t =>
    obtain ⟨y, rfl, q⟩ := rep1 t
    exact ⟨_, _, rfl, r, q⟩

def lenM (vs : List MV) (h : MHp) (Q : MQ) : Prop := ∃ v xs, vs = [v] ∧ seqOf h v = some xs ∧ Q (.int xs.length) h
theorem call_lenM : CallR X (.builtin "len") (RNM Y lenM) := crI call_len_seq fun xs H Q ⟨ι, hm, vs, Qm, hr, ra, ⟨v, ys, e, e2, q⟩, tq⟩ => by
  subst e
  obtain ⟨x, rfl, r⟩ := rep1 ra
  obtain ⟨p, ws, rfl, sq, rr⟩ := seqOf_rep X.K hr r e2
  exact ⟨p, ws, rfl, sq, by rw [← rr.length]; exact tq.here hr (.int _) q⟩
def listM (vs : List MV) (h : MHp) (Q : MQ) : Prop := ∃ v xs, vs = [v] ∧ seqOf h v = some xs ∧ Q (.fl xs) h
def listMC (vs : List MV) (h : MHp) (Q : MQ) : Prop := ∃ v xs, vs = [v] ∧ seqOf h v = some xs ∧ Q (.ref h.length) (h ++ [.lst xs])
theorem call_listM : CallR X (.type "list") (RNM Y listM) := crI call_list_of fun xs H Q ⟨ι, hm, vs, Qm, hr, ra, ⟨v, ys, e, e2, q⟩, tq⟩ => by
  subst e
  obtain ⟨x, rfl, r⟩ := rep1 ra
  obtain ⟨p, ws, rfl, sq, rr⟩ := seqOf_rep X.K hr r e2
  exact ⟨p, ws, rfl, sq, fun l hl => tq.newL hr rr q hl⟩
theorem call_listMC : CallR X (.type "list") (RNM Y listMC) := crI call_list_of fun xs H Q ⟨ι, hm, vs, Qm, hr, ra, ⟨v, ys, e, e2, q⟩, tq⟩ => by
  subst e
  obtain ⟨x, rfl, r⟩ := rep1 ra
  obtain ⟨p, ws, rfl, sq, rr⟩ := seqOf_rep X.K hr r e2
  exact ⟨p, ws, rfl, sq, fun l hl => tq.newC hr rr q hl⟩
def tupleM (vs : List MV) (h : MHp) (Q : MQ) : Prop := ∃ v xs, vs = [v] ∧ seqOf h v = some xs ∧ Q (.tup xs) h
theorem call_tupleM : CallR X (.type "tuple") (RNM Y tupleM) := crI call_tuple_of fun xs H Q ⟨ι, hm, vs, Qm, hr, ra, ⟨v, ys, e, e2, q⟩, tq⟩ => by
  subst e
  obtain ⟨x, rfl, r⟩ := rep1 ra
  have hcase : (∃ zs, v = .tup zs) ∨ lstOf hm v = some ys := by
    cases v <;> first | exact .inl ⟨_, rfl⟩ | exact .inr e2
  rcases hcase with ⟨zs, rfl⟩ | e3
  · cases r with
    | @tup zs ws a ea rr =>
      cases e2
      exact ⟨a, ws, rfl, .inr ⟨SqT.of ea, tq.here hr (.tup ea rr) q⟩⟩
  · obtain ⟨p, ws, rfl, sq, rr⟩ := lstOf_rep X.K hr r e3
    exact ⟨p, ws, rfl, .inl ⟨sq, fun l hl => tq.newT hr rr q hl⟩⟩
def intM (vs : List MV) (h : MHp) (Q : MQ) : Prop := match vs with
  | [.int i] => Q (.int i) h
  | [.bl b] => Q (.int (if b then 1 else 0)) h
  | _ => False
theorem call_intM : CallR X (.type "int") (RNM Y intM) := crI call_int1 fun xs H Q ⟨ι, hm, vs, Qm, hr, ra, q, tq⟩ => by
  unfold intM at q
  split at q
  · obtain ⟨x, rfl, r⟩ := rep1 ra
    cases r
    exact .inl ⟨_, rfl, tq.here hr (.int _) q⟩
  · obtain ⟨x, rfl, r⟩ := rep1 ra
    cases r
    exact .inr ⟨_, rfl, tq.here hr (.int _) q⟩
  · exact q.elim
def boolM (vs : List MV) (h : MHp) (Q : MQ) : Prop := match vs with
  | [.int i] => Q (.bl (i != 0)) h
  | [.bl b] => Q (.bl b) h
  | _ => False
def min2M (vs : List MV) (h : MHp) (Q : MQ) : Prop := match vs with
  | [.int i, .int j] => Q (.int (if j < i then j else i)) h
  | _ => False
def max2M (vs : List MV) (h : MHp) (Q : MQ) : Prop := match vs with
  | [.int i, .int j] => Q (.int (if j > i then j else i)) h
  | _ => False
theorem call_min2M (hc : X.calm = true) : CallR X (.builtin "min") (RNM Y min2M) := crI (call_min2 hc) fun xs H Q ⟨ι, hm, vs, Qm, hr, ra, q, tq⟩ => by
  unfold min2M at q
  split at q
  · obtain ⟨x, y, rfl, r1, r2⟩ := rep2 ra
    cases r1
    cases r2
    exact ⟨_, _, rfl, tq.here hr (.int _) q⟩
  · exact q.elim
def intsOf : List MV → Option (List Int)
  | [] => some []
  | .int i :: xs => (intsOf xs).map (i :: ·)
  | _ => none
def blsOf : List MV → Option (List Bool)
  | [] => some []
  | .bl i :: xs => (blsOf xs).map (i :: ·)
  | _ => none
theorem blsOf_rep {ι : Nat → Addr} {n : Nat} {H : Hp} : ∀ {xs : List MV} {vs : List V} {ns : List Bool}, RepAll Y ι n H xs vs → blsOf xs = some ns → vs = ns.map V.bl
  | [], _, _, .nil, h => by cases h; rfl
  | .bl i :: xs, _, ns, .cons r t, h => by
    simp only [blsOf, Option.map_eq_some_iff] at h
    obtain ⟨ms, h, rfl⟩ := h
    cases r
    rw [List.map_cons, ← blsOf_rep t h]
  | .non :: _, _, _, _, h | .int _ :: _, _, _, _, h | .str _ :: _, _, _, _, h | .tup _ :: _, _, _, _, h | .fl _ :: _, _, _, _, h | .sc _ :: _, _, _, _, h | .fd _ _ :: _, _, _, _, h | .fs _ :: _, _, _, _, h | .fi _ _ :: _, _, _, _, h | .ex _ _ :: _, _, _, _, h | .ref _ :: _, _, _, _, h => by simp [blsOf] at h
def sumM (vs : List MV) (h : MHp) (Q : MQ) : Prop := ∃ v xs ns, vs = [v] ∧ lstOf h v = some xs ∧ intsOf xs = some ns ∧ Q (.int ns.sum) h
def anyM (vs : List MV) (h : MHp) (Q : MQ) : Prop := ∃ v xs ns, vs = [v] ∧ lstOf h v = some xs ∧ blsOf xs = some ns ∧ Q (.bl (ns.any _root_.id)) h
def allM (vs : List MV) (h : MHp) (Q : MQ) : Prop := ∃ v xs ns, vs = [v] ∧ lstOf h v = some xs ∧ blsOf xs = some ns ∧ Q (.bl (ns.all _root_.id)) h
theorem call_anyM (hc : X.calm = true) : CallR X (.builtin "any") (RNM Y anyM) := crI (cr_any hc) fun xs H Q ⟨ι, hm, vs, Qm, hr, ra, ⟨v, ys, ns, e, e2, e3, q⟩, tq⟩ => by
  subst e
  obtain ⟨x, rfl, r⟩ := rep1 ra
  obtain ⟨p, ws, rfl, sq, rr⟩ := lstOf_rep X.K hr r e2
  obtain rfl := blsOf_rep rr e3
  exact ⟨p, ns, rfl, sq, tq.here hr (.bl _) q⟩
theorem call_allM (hc : X.calm = true) : CallR X (.builtin "all") (RNM Y allM) := crI (cr_all hc) fun xs H Q ⟨ι, hm, vs, Qm, hr, ra, ⟨v, ys, ns, e, e2, e3, q⟩, tq⟩ => by
  subst e
  obtain ⟨x, rfl, r⟩ := rep1 ra
  obtain ⟨p, ws, rfl, sq, rr⟩ := lstOf_rep X.K hr r e2
  obtain rfl := blsOf_rep rr e3
  exact ⟨p, ns, rfl, sq, tq.here hr (.bl _) q⟩
end
end Mini
namespace Mini
open PySem PySem.Spec PyProof.Rows L2

mutual
/-- numbers, None, tuples of such -/
def nkNum : NestedKey → Bool
  | .none => true
  | .num _ => true
  | .text _ => false
  | .tup ks => nkNumAll ks
def nkNumAll : List NestedKey → Bool
  | [] => true
  | k :: ks => nkNum k && nkNumAll ks
end
structure IsN (h : Heap) (k : NestedKey) (b : Addr) : Prop where
  is : NestedIs h k (.ref b)
  dp : k.depth ≤ 8
  nm : nkNum k = true
theorem IsN.keep {h h' : Heap} {k : NestedKey} {b : Addr} (x : IsN h k b) (hk : ∀ c o, h.get? c = some o → h'.get? c = some o) : IsN h' k b := ⟨NestedIs.at (fun a o _ _ e _ => hk a o e) _ _ x.is, x.dp, x.nm⟩
theorem IsN.same {h h' : Heap} {k : NestedKey} {a b : Addr} {o : Obj} {es : Array (Int × Value)} {ep : Nat} {t : SetTable} (x : IsN h k b) (ho : h.get? a = some o) (hd : o.data = .set es ep t) (hs : Heap.SameBut a h h') : IsN h' k b :=
  ⟨NestedIs.at (fun c u vs n e hc => by
    have hne : c ≠ a := by
      rintro rfl
      rw [ho] at e
      cases e
      rw [hd] at hc
      cases hc
    exact (hs.2 c hne).trans e) _ _ x.is, x.dp, x.nm⟩
theorem IsN.ty {h : Heap} {k : NestedKey} {b : Addr} (x : IsN h k b) : ∃ ks o vs n, k = .tup ks ∧ h.get? b = some o ∧ o.cls = .type "tuple" ∧ o.data = .seq vs n ∧ NestedAll h ks vs.toList := by
  obtain ⟨x, _, _⟩ := x
  cases x with
  | tup h1 h2 h3 h4 => exact ⟨_, _, _, _, rfl, h1, h2, h3, h4⟩

section
variable {P : Program} {w : World} {A : Around} {E : Value → Shared → Prop}
mutual
theorem ofAClassN : ∀ (k : NestedKey) (v : Value) (n : Nat) (s : Shared) (A : Around) (E : Value → Shared → Prop) (Q : Bool → Shared → Prop), NestedIs s.heap k v → k.depth ≤ n → Q false s → wpAny (model P w) A (ofAClassStatement n v) Q E s
  | .none, _, n, s, A, E, Q, x, _, h => by cases x; cases n <;> exact wpAny_pure h
  | .num i, _, n, s, A, E, Q, x, _, h => by cases x <;> cases n <;> exact wpAny_pure h
  | .text y, _, n, s, A, E, Q, x, _, h => by cases x; cases n <;> exact wpAny_pure h
  | .tup ks, _, n, s, A, E, Q, x, hn, h => by
    cases x with
    | @tup a o vs m _ hg hc hd hk =>
      simp only [NestedKey.depth] at hn
      cases n with
      | zero => omega
      | succ n =>
        have hT : s.TypeIs (.ref a) "tuple" := ⟨o, hg, hc⟩
        unfold ofAClassStatement
        refine wpAny_bind (wpAny_typeOf hT ?_)
        dsimp only
        have e : (("tuple" : String) == "tuple") = true := by decide
        simp only [e, if_true, Bool.not_true, Bool.false_eq_true, if_false]
        try refine wpAny_bind (wpAny_pure ?_)
        try simp only [Bool.not_true, Bool.false_eq_true, if_false]
        show wpAny _ _ (seqItems? (.ref a) >>= _) _ _ s
        refine wpAny_bind (wpAny_seqItems hg hd ?_)
        dsimp only
        refine wpAny_bind ?_
        show wpAny _ _ (forIn vs _ _) _ _ s
        rw [← Array.forIn_toList]
        have all := ofAClassNs ks vs.toList n s hk (by omega)
        refine wpAny_forIn_list _ (fun rest r s' => r.1 = none ∧ s' = s ∧ ∀ v ∈ rest, v ∈ vs.toList) _ ?_ ?_ _ _ ⟨rfl, rfl, fun _ hv => hv⟩
        · rintro v rest r s' ⟨hr, rfl, hall⟩
          refine wpAny_bind (all v (hall v List.mem_cons_self) _ _ _ ?_)
          simp only [Bool.false_eq_true, if_false]
          exact wpAny_pure ⟨rfl, rfl, fun u hu' => hall u (List.mem_cons_of_mem _ hu')⟩
        · rintro ⟨r1, r2⟩ s' ⟨hr, rfl, _⟩
          simp only at hr
          subst hr
          exact wpAny_pure h
theorem ofAClassNs : ∀ (ks : List NestedKey) (vs : List Value) (n : Nat) (s : Shared), NestedAll s.heap ks vs → NestedKey.depthAll ks ≤ n → ∀ v ∈ vs, ∀ (A : Around) (E : Value → Shared → Prop) (Q : Bool → Shared → Prop), Q false s → wpAny (model P w) A (ofAClassStatement n v) Q E s
  | [], _, n, s, x, _, v, hv => by cases x; cases hv
  | k :: ks, _, n, s, x, hn, v, hv => by
    cases x with
    | cons x1 x2 =>
      simp only [NestedKey.depthAll] at hn
      rcases List.mem_cons.mp hv with e | hv
      · rw [e]; exact fun A E Q h => ofAClassN k _ n s A E Q x1 (by omega) h
      · exact ofAClassNs ks _ n s x2 (by omega) v hv
end
mutual
theorem hashByN : ∀ (k : NestedKey) (v : Value) (n : Nat) (s : Shared) (A : Around) (E : Value → Shared → Prop) (Q : Bool → Shared → Prop), NestedIs s.heap k v → k.depth ≤ n → nkNum k = true → Q true s → wpAny (model P w) A (hashByValue n v) Q E s
  | .none, _, n, s, A, E, Q, x, _, _, h => by cases x; cases n <;> exact wpAny_pure h
  | .num i, _, n, s, A, E, Q, x, _, _, h => by cases x <;> cases n <;> exact wpAny_pure h
  | .text y, _, n, s, A, E, Q, x, _, hk, h => by simp [nkNum] at hk
  | .tup ks, _, n, s, A, E, Q, x, hn, hm, h => by
    cases x with
    | @tup a o vs m _ hg hc hd hk =>
      simp only [NestedKey.depth] at hn
      cases n with
      | zero => omega
      | succ n =>
        have hT : s.TypeIs (.ref a) "tuple" := ⟨o, hg, hc⟩
        unfold hashByValue
        refine wpAny_bind (wpAny_specialOf hT F.slot_tuple_hash.lookup ?_)
        show wpAny _ _ (seqItems? (.ref a) >>= _) _ _ s
        refine wpAny_bind (wpAny_seqItems hg hd ?_)
        refine wpAny_bind ?_
        show wpAny _ _ (forIn vs _ _) _ _ s
        rw [← Array.forIn_toList]
        have all := hashByNs ks vs.toList n s hk (by omega) (by simpa [nkNum] using hm)
        refine wpAny_forIn_list _ (fun rest r s' => r.1 = none ∧ s' = s ∧ ∀ v ∈ rest, v ∈ vs.toList) _ ?_ ?_ _ _ ⟨rfl, rfl, fun _ hv => hv⟩
        · rintro v rest r s' ⟨hr, rfl, hall⟩
          refine wpAny_bind (all v (hall v List.mem_cons_self) _ _ _ ?_)
          simp only [Bool.not_true, Bool.false_eq_true, if_false]
          exact wpAny_pure ⟨rfl, rfl, fun u hu' => hall u (List.mem_cons_of_mem _ hu')⟩
        · rintro ⟨r1, r2⟩ s' ⟨hr, rfl, _⟩
          simp only at hr
          subst hr
          exact wpAny_pure h
theorem hashByNs : ∀ (ks : List NestedKey) (vs : List Value) (n : Nat) (s : Shared), NestedAll s.heap ks vs → NestedKey.depthAll ks ≤ n → nkNumAll ks = true → ∀ v ∈ vs, ∀ (A : Around) (E : Value → Shared → Prop) (Q : Bool → Shared → Prop), Q true s → wpAny (model P w) A (hashByValue n v) Q E s
  | [], _, n, s, x, _, _, v, hv => by cases x; cases hv
  | k :: ks, _, n, s, x, hn, hm, v, hv => by
    cases x with
    | cons x1 x2 =>
      simp only [NestedKey.depthAll] at hn
      simp only [nkNumAll, Bool.and_eq_true] at hm
      rcases List.mem_cons.mp hv with e | hv
      · rw [e]; exact fun A E Q h => hashByN k _ n s A E Q x1 (by omega) hm.1 h
      · exact hashByNs ks _ n s x2 (by omega) hm.2 v hv
end
variable {s : Shared}
theorem seenN {k : NestedKey} {b : Addr} {Q : Bool → Shared → Prop} (hk : IsN s.heap k b) {ys : List Value} (hy : ∀ y ∈ ys, ∃ k' c, y = Value.ref c ∧ IsN s.heap k' c) (h : Q false s) :
    wpAny (model P w) A (searchCouldBeSeen (.ref b) ys) Q E s := by
  unfold searchCouldBeSeen
  refine wpAny_bind ?_
  refine wpAny_forIn_list _ (fun rest r s' => r.1 = none ∧ s' = s ∧ ∀ y ∈ rest, ∃ k' c, y = Value.ref c ∧ IsN s.heap k' c) _ ?_ ?_ _ _ ⟨rfl, rfl, hy⟩
  · rintro v rest r s' ⟨hr, rfl, hall⟩
    obtain ⟨k', c, rfl, hc⟩ := hall v List.mem_cons_self
    have rest' : ∀ y ∈ rest, ∃ k' c, y = Value.ref c ∧ IsN s'.heap k' c := fun u hu' => hall u (List.mem_cons_of_mem _ hu')
    dsimp only
    by_cases hv : (b == c || (carriedByValue (.ref b) && carriedByValue (.ref c))) = true
    · exact wp_if_pos hv (wpAny_pure ⟨rfl, rfl, rest'⟩)
    · refine wp_if_neg hv (wpAny_bind (quiet_key k _ 8 s' hk.is hk.dp A _ _ ?_))
      simp only [Bool.not_true, Bool.false_eq_true, if_false]
      refine wpAny_bind (quiet_key k' _ 8 s' hc.is hc.dp A _ _ ?_)
      simp only [Bool.not_true, Bool.false_eq_true, if_false]
      refine wpAny_bind (ofAClassN k _ 8 s' A _ _ hk.is hk.dp ?_)
      simp only [Bool.false_eq_true, if_false]
      refine wpAny_bind (ofAClassN k' _ 8 s' A _ _ hc.is hc.dp ?_)
      simp only [Bool.false_eq_true, if_false]
      exact wpAny_pure ⟨rfl, rfl, rest'⟩
  · rintro ⟨r1, r2⟩ s' ⟨hr, rfl, _⟩
    simp only at hr
    subst hr
    exact wpAny_pure h

def rowsN (w : World) (L : List (Addr × NestedKey)) : List (Int × Value) := L.map fun p => (p.2.hash w, Value.ref p.1)
structure SetN (w : World) (h : Heap) (a : Addr) (L : List (Addr × NestedKey)) (es : Array (Int × Value)) (ep : Nat) (t : SetTable) : Prop where
  ob : ∃ o, h.get? a = some o ∧ o.ExactSet ∧ o.data = .set es ep t
  rows : es.toList = rowsN w L
  tab : TabOk t (L.map fun p => p.2.hash w)
  nd : (L.map (·.2)).Nodup
  tup : ∀ p ∈ L, IsN h p.2 p.1
  plain : t.plain = true
  led : w.params.followText "set-order" = true ∨ t.led = true
  room : L.length * 5 < t.mask * 3
  few : L.length < 76
variable {a : Addr} {L : List (Addr × NestedKey)} {es : Array (Int × Value)} {ep : Nat} {t : SetTable}
theorem rowsN_length (es : Array (Int × Value)) (L : List (Addr × NestedKey)) (h : es.toList = rowsN w L) : es.size = L.length := by
  have h := congrArg List.length h
  unfold rowsN at h
  rwa [Array.length_toList, List.length_map] at h
theorem SetN.size (R : SetN w s.heap a L es ep t) : es.size = L.length := rowsN_length es L R.rows
theorem SetN.fits (R : SetN w s.heap a L es ep t) : t.fits es.size = true := by
  have h1 := R.tab.sz
  rw [List.length_map] at h1
  have h2 := R.size
  have h3 := R.room
  unfold SetTable.fits SetTable.fill
  rw [R.tab.dm, Bool.and_eq_true, beq_iff_eq, decide_eq_true_eq]
  show t.place.size = es.size ∧ t.place.size + 0 ≤ t.mask
  omega
theorem SetN.entry (R : SetN w s.heap a L es ep t) {i : Nat} {p : Addr × NestedKey} (h : L[i]? = some p) : es[i]? = some (p.2.hash w, Value.ref p.1) := by
  rw [← Array.getElem?_toList, R.rows]
  unfold rowsN
  rw [List.getElem?_map, h] <;> rfl
theorem SetN.gw (R : SetN w s.heap a L es ep t) : ¬ t.gaveWay = true := by
  unfold SetTable.gaveWay
  rw [mask_odd R.tab.mok]
  decide
abbrev pr (t : SetTable) (h : Int) (c : Nat) : SetTable.Probe := nth t.mask (runAt t.mask (SetTable.bits h % (t.mask + 1)) (SetTable.bits h)) c
theorem pr_dummy (t : SetTable) (h : Int) (c : Nat) : (pr t h c).dummy = none := by
  have key : ∀ (n : Nat) (p : SetTable.Probe), p.dummy = none → (nth t.mask p n).dummy = none := by
    intro n
    induction n with
    | zero => intro p h; exact h
    | succ n ih =>
      intro p h
      refine ih (adv t.mask p) ?_
      unfold adv
      split <;> exact h
  exact key c _ rfl
theorem searchN_from (R : SetN w s.heap a L es ep t) {x : Addr} {k : NestedKey} (hx : IsN s.heap k x) (hu : A.units + 8 < cLine) {K : Nat} (hKf : K < 10 * SetTable.turns t.mask)
    (hK : way t.mask (k.hash w) K ∉ t.place.toList) (hKb : ∀ c, c < K → way t.mask (k.hash w) c ∈ t.place.toList) {Q : SetFound → Shared → Prop}
    (hin : k ∈ L.map (·.2) → Q (.there none) s) (hout : k ∉ L.map (·.2) → Q (.free (way t.mask (k.hash w) K) false) s) :
    ∀ (f c : Nat) (stand : Option SetTable.Probe), stand.getD (t.probeStart (k.hash w)) = pr t (k.hash w) c → c ≤ K → K - c < f →
      (∀ (i : Nat) p, L[i]? = some p → p.2 = k → ∃ c', c ≤ c' ∧ c' < K ∧ t.place.toList[i]? = some (way t.mask (k.hash w) c')) →
      wpAny (model P w) A (setSearchFrom a (.ref x) (k.hash w) true f stand) Q E s
  | 0, c, stand, _, _, hf, _ => absurd hf (Nat.not_lt_zero _)
  | f + 1, c, stand, hst, hc, hf, hre => by
    obtain ⟨o, ho, hex, hd⟩ := R.ob
    rw [setSearchFrom_succ]
    refine wpAny_bind (wpAny_setState_of ho hd R.fits ?_)
    dsimp only
    refine wp_if_neg R.gw ?_
    try refine wpAny_bind (wpAny_pure ?_)
    have sh : ∀ q, nth t.mask (pr t (k.hash w) c) q = pr t (k.hash w) (c + q) := fun q => (nth_add t.mask c _ q).symm
    have e1 : ∀ q, (nth t.mask (pr t (k.hash w) c) q).j = way t.mask (k.hash w) (c + q) := fun q => congrArg SetTable.Probe.j (sh q)
    have spec := go_spec t R.tab.ris R.tab.dm (fun i => (es[i]?.map (·.1)).getD 0) (k.hash w) (10 * SetTable.turns t.mask) (K - c) _ (pr_dummy t (k.hash w) c) (by omega)
      (fun q hq => by rw [e1]; exact hKb (c + q) (by omega)) (by rw [e1, show c + (K - c) = K by omega]; exact hK)
    have hashAt : ∀ (i : Nat) p, L[i]? = some p → (fun i => (es[i]?.map (·.1)).getD 0) i = p.2.hash w := fun i p hp => by
      show (es[i]?.map (·.1)).getD 0 = _
      rw [R.entry hp] <;> rfl
    rcases spec with ⟨q, i, hq, hi, hh, hno, hpr⟩ | ⟨hno, hpr⟩
    · have hpr' : t.probe (fun i => (es[i]?.map (·.1)).getD 0) (k.hash w) (stand.getD (t.probeStart (k.hash w))) = some (.candidate (way t.mask (k.hash w) (c + q)) i (pr t (k.hash w) (c + (q + 1)))) := by
        rw [hst, ← e1, ← sh]
        exact hpr
      rw [hpr']
      dsimp only
      rw [e1] at hi
      have hil : i < L.length := by
        have h1 : i < t.place.toList.length := (List.getElem?_eq_some_iff.mp hi).1
        have h2 := R.tab.sz
        rw [List.length_map] at h2
        rw [Array.length_toList] at h1
        omega
      have hp : L[i]? = some L[i] := List.getElem?_eq_getElem hil
      generalize hpe : L[i] = p at hp
      have hmem : p ∈ L := List.mem_of_getElem? hp
      have hpt := R.tup p hmem
      have rest : wpAny (model P w) A (searchRest a (.ref x) (k.hash w) true f es t (way t.mask (k.hash w) (c + q)) i (pr t (k.hash w) (c + (q + 1)))) Q E s := by
        unfold searchRest
        rw [R.entry hp]
        dsimp only
        have hd8 := hx.dp
        refine wpAny_bind (wpAny_holding (eqAt_key p.2 k A s _ _ hpt.is hx.is (by have := hpt.dp; omega) _ _ _ _ ?_))
        refine wpAny_bind (wpAny_setState_of ho hd R.fits ?_)
        dsimp only
        rw [← NestedKey.decide_eq]
        by_cases hkk : p.2 = k
        · refine wp_if_pos (by simp [hkk]) (wpAny_pure (hin ?_))
          exact List.mem_map.mpr ⟨p, hmem, hkk⟩
        · refine wp_if_neg (by simp [hkk]) ?_
          try refine wpAny_bind (wpAny_pure ?_)
          rw [sameMem]
          dsimp only
          have hsl : t.slot (way t.mask (k.hash w) (c + q)) = .live i := slot_live R.tab.ris hi
          simp only [if_true, hsl, R.entry hp]
          refine wpAny_bind (wpAny_isSame_ref_self (wpAny_bind (wpAny_pure ?_)))
          simp only [if_true]
          refine wp_if_neg (by simp [hkk]) ?_
          refine searchN_from R hx hu hKf hK hKb hin hout f (c + (q + 1)) _ rfl (by omega) (by omega) fun i0 p0 h0 hk0 => ?_
          obtain ⟨c', a1, a2, a3⟩ := hre i0 p0 h0 hk0
          refine ⟨c', ?_, a2, a3⟩
          rcases Nat.lt_or_ge c' (c + q) with z | z
          · exfalso
            refine hno (c' - c) i0 (by omega) (by rw [e1, show c + (c' - c) = c' by omega]; exact a3) ?_
            exact (hashAt i0 p0 h0).trans (congrArg (NestedKey.hash w) hk0)
          · rcases Nat.lt_or_ge (c + q) c' with y | y
            · omega
            · exfalso
              have ec : c' = c + q := Nat.le_antisymm y z
              rw [ec] at a3
              have s0 := slot_live R.tab.ris a3
              rw [hsl] at s0
              injection s0 with s0
              rw [← s0, hp] at h0
              exact hkk ((congrArg Prod.snd (Option.some.inj h0)).trans hk0)
      by_cases hl : t.led = true
      · refine wp_if_neg (by simp [hl]) ?_
        try refine wpAny_bind (wpAny_pure ?_)
        exact rest
      · refine wp_if_pos (by simp [hl]) (wpAny_bind (seenN hx (fun y hy => ?_) ?_))
        · obtain ⟨e, he, ee⟩ := List.mem_map.mp hy
          have he1 : e ∈ es ∧ e.1 = k.hash w := by simpa using he
          have he2 : e ∈ es.toList := by simpa using he1.1
          rw [R.rows] at he2
          obtain ⟨p2, hp2, e2⟩ := List.mem_map.mp he2
          refine ⟨p2.2, p2.1, ?_, R.tup p2 hp2⟩
          rw [← ee, ← e2]
        · refine wp_if_neg (by decide) ?_
          try refine wpAny_bind (wpAny_pure ?_)
          exact rest
    · have hpr' : t.probe (fun i => (es[i]?.map (·.1)).getD 0) (k.hash w) (stand.getD (t.probeStart (k.hash w))) = some (.empty (way t.mask (k.hash w) K) none) := by
        have e2 : way t.mask (k.hash w) K = (nth t.mask (pr t (k.hash w) c) (K - c)).j := by
          rw [e1, show c + (K - c) = K by omega]
        rw [hst, e2]
        exact hpr
      rw [hpr']
      dsimp only
      refine wpAny_pure (hout fun hm => ?_)
      obtain ⟨p0, h0, hk0⟩ := List.mem_map.mp hm
      obtain ⟨i0, hi0, e0⟩ := List.getElem_of_mem h0
      have h00 : L[i0]? = some p0 := by rw [List.getElem?_eq_getElem hi0, e0]
      obtain ⟨c', a1, a2, a3⟩ := hre i0 p0 h00 hk0
      refine hno (c' - c) i0 (by omega) (by rw [e1, show c + (c' - c) = c' by omega]; exact a3) ?_
      exact (hashAt i0 p0 h00).trans (congrArg (NestedKey.hash w) hk0)
theorem searchN_at (R : SetN w s.heap a L es ep t) {x : Addr} {k : NestedKey} (hx : IsN s.heap k x) (hu : A.units + 8 < cLine) {Q : SetFound → Shared → Prop}
    (hin : k ∈ L.map (·.2) → Q (.there none) s)
    (hout : ∀ K, k ∉ L.map (·.2) → way t.mask (k.hash w) K ∉ t.place.toList → (∀ c, c < K → way t.mask (k.hash w) c ∈ t.place.toList) → Q (.free (way t.mask (k.hash w) K) false) s) :
    wpAny (model P w) A (setSearch a (.ref x) (k.hash w) true) Q E s := by
  have hroom := R.room
  obtain ⟨K, hKf, hK, hKb⟩ := R.tab.first (by rw [List.length_map]; omega) (k.hash w)
  have hbig : K < 100000 := by
    have : 10 * SetTable.turns t.mask ≤ 1420 := by
      unfold SetTable.turns
      rcases R.tab.mok with e | e | e <;> omega
    omega
  unfold setSearch
  refine searchN_from R hx hu hKf hK hKb hin (fun hn => hout K hn hK hKb) 100000 0 none rfl (Nat.zero_le _) (by omega) fun i p hp hk => ?_
  have hi : (L.map fun p => p.2.hash w)[i]? = some (k.hash w) := by rw [List.getElem?_map, hp, ← hk] <;> rfl
  have hil : i < t.place.toList.length := by
    have h1 : i < L.length := (List.getElem?_eq_some_iff.mp hp).1
    have h2 := R.tab.sz
    rw [List.length_map] at h2
    rw [Array.length_toList]
    omega
  have hj := List.getElem?_eq_getElem hil
  obtain ⟨c, hc, e⟩ := R.tab.before hK hi hj
  exact ⟨c, Nat.zero_le _, hc, by rw [hj, e]⟩
end
end Mini
namespace Mini
open PySem PySem.Spec PyProof.Rows L2
section
variable {P : Program} {w : World} {A : Around} {E : Value → Shared → Prop} {s : Shared}
theorem orderN (L : List (Addr × NestedKey)) (es : Array (Int × Value)) (order : Array Nat) (hr : es.toList = rowsN w L) (hp : order.toList.Perm (List.range L.length)) :
    ∃ L2, (order.filterMap (es[·]?)).toList = rowsN w L2 ∧ L2.Perm L ∧ (L2.map fun p => p.2.hash w) = order.toList.map fun i => (es.map (·.1)).getD i 0 := by
  have hsz := rowsN_length es L hr
  have ent : ∀ i (h : i < L.length), es[i]? = some ((L[i]).2.hash w, Value.ref (L[i]).1) := fun i h => by
    rw [← Array.getElem?_toList, hr]
    unfold rowsN
    rw [List.getElem?_map, List.getElem?_eq_getElem h] <;> rfl
  have key : ∀ l : List Nat, (∀ i ∈ l, i < L.length) → l.filterMap (fun i => es[i]?) = rowsN w (l.filterMap (fun i => L[i]?)) ∧ ((l.filterMap (fun i => L[i]?)).map fun p => p.2.hash w) = l.map fun i => (es.map (·.1)).getD i 0 := by
    intro l
    induction l with
    | nil => intro _; exact ⟨rfl, rfl⟩
    | cons i l ih =>
      intro hl
      have hi := hl i List.mem_cons_self
      obtain ⟨e1, e3⟩ := ih fun j hj => hl j (List.mem_cons_of_mem _ hj)
      rw [List.filterMap_cons_some (List.getElem?_eq_getElem hi)]
      refine ⟨by rw [List.filterMap_cons_some (ent i hi), e1] <;> rfl, ?_⟩
      rw [List.map_cons, List.map_cons, e3]
      have e5 : (es.map (·.1))[i]? = some ((L[i]).2.hash w) := by rw [Array.getElem?_map, ent i hi] <;> rfl
      have e4 : (es.map (·.1)).getD i 0 = (L[i]).2.hash w := by simp [Array.getD_eq_getD_getElem?, e5]
      rw [e4]
  obtain ⟨e1, e3⟩ := key order.toList fun i hi => List.mem_range.mp (hp.mem_iff.mp hi)
  refine ⟨_, by first | (rw [Array.toList_filterMap]; exact e1) | simpa using e1, ?_, e3⟩
  have h1 := hp.filterMap (fun i => L[i]?)
  have h2 : (List.range L.length).filterMap (fun i => L[i]?) = L := by
    have key2 : ∀ n, n ≤ L.length → (List.range n).filterMap (fun i => L[i]?) = L.take n := by
      intro n
      induction n with
      | zero => intro _; rfl
      | succ n ih =>
        intro hn
        have hlt : n < L.length := hn
        rw [List.range_succ, List.filterMap_append, ih (Nat.le_of_lt hlt), List.take_succ, List.getElem?_eq_getElem hlt]
        rw [List.filterMap_cons_some (List.getElem?_eq_getElem hlt)] <;> rfl
    rw [key2 L.length (Nat.le_refl _), List.take_length]
  rwa [h2] at h1
variable {a : Addr} {L : List (Addr × NestedKey)} {es : Array (Int × Value)} {ep : Nat} {t : SetTable}
theorem relayN {o : Obj} (ho : s.heap.get? a = some o) (hex : o.ExactSet) (hd : o.data = .set es ep t) (hrows : es.toList = rowsN w L) (hsz : t.place.size = es.size) (hdm : t.dummies = #[]) (hfl : es.size ≤ t.mask)
    (nd : (L.map (·.2)).Nodup) (tup : ∀ p ∈ L, IsN s.heap p.2 p.1) (pl : t.plain = true) (ld : w.params.followText "set-order" = true ∨ t.led = true) (few : L.length < 76) {wanted M : Nat}
    (hw : SetTable.sizeAbove wanted - 1 = M) (hM : MaskOk M) (hw2 : SetTable.sizeAbove wanted ≤ 128) (hn : L.length * 5 < M * 3) {Q : Unit → Shared → Prop}
    (hQ : ∀ h' L' es' ep' t', Heap.SameBut a s.heap h' → SetN w h' a L' es' ep' t' → L'.Perm L → Q () { s with heap := h' }) : wpAny (model P w) A (setRelay a wanted) Q E s := by
  have hsl := rowsN_length es L hrows
  have hfits : t.fits es.size = true := by
    unfold SetTable.fits SetTable.fill
    rw [hdm, Bool.and_eq_true, beq_iff_eq, decide_eq_true_eq]
    show t.place.size = es.size ∧ t.place.size + 0 ≤ t.mask
    omega
  obtain ⟨t', order, e, hp, T, em, el, ep', ed⟩ := relaid_ok t (hs := es.map (·.1)) (wanted := wanted) hw hM (by rw [Array.size_map, hsl]; omega)
  rw [Array.size_map, hsl] at hp
  obtain ⟨L2, r1, r2, r3⟩ := orderN L es order hrows hp
  rw [← r3] at T
  have hs2 : (order.filterMap (es[·]?)).size = es.size := by rw [rowsN_length _ _ r1, r2.length_eq, hsl]
  rw [setRelay_eq]
  refine wpAny_bind (wpAny_setState_of ho hd hfits ?_)
  dsimp only
  refine wp_if_neg (by rw [sizeLine_eq]; omega) ?_
  try refine wpAny_bind (wpAny_pure ?_)
  rw [e]
  dsimp only
  refine wpAny_bind (wp_if_neg (by rw [hs2]; simp) ?_)
  try refine wpAny_bind (wpAny_pure ?_)
  refine wpAny_pure ?_
  dsimp only
  refine wpAny_storeSet_of ho hd ?_ (by rw [hs2, hsl, sizeLine_eq]; omega)
  have sb : Heap.SameBut a s.heap (s.heap.update a (Obj.putSet (order.filterMap (es[·]?)) t')) := Heap.SameBut.update ..
  refine hQ _ L2 (order.filterMap (es[·]?)) (ep + 1) t' sb ?_ r2
  refine ⟨⟨_, store_at ho hd, ⟨hex.1, hex.2.1, hex.2.2⟩, rfl⟩, r1, T, ?_, fun p hpm => (tup p (r2.mem_iff.mp hpm)).same ho hd sb, by rw [ep']; exact pl, by rw [el]; exact ld, ?_, by rw [r2.length_eq]; exact few⟩
  · exact (r2.map (·.2)).nodup_iff.mpr nd
  · rw [r2.length_eq, em]
    exact hn
theorem addN (R : SetN w s.heap a L es ep t) {x : Addr} {k : NestedKey} (hx : IsN s.heap k x) (hu : A.units + 8 < cLine) (hfew : L.length + 1 < 76) {Q : Bool → Shared → Prop}
    (hQ : ∀ b h' L' es' ep' t', Heap.SameBut a s.heap h' → SetN w h' a L' es' ep' t' → (k ∈ L.map (·.2) → L' = L) → (k ∉ L.map (·.2) → L'.Perm ((x, k) :: L)) → Q b { s with heap := h' }) :
    wpAny (model P w) A (setAddHashed a (.ref x) (k.hash w)) Q E s := by
  obtain ⟨o, ho, hex, hd⟩ := R.ob
  have hsl := R.size
  have hroom := R.room
  unfold setAddHashed
  refine wpAny_holding ?_
  rw [show (100000 : Nat) = 99999 + 1 from rfl, setAddHashedIn_succ]
  refine wpAny_bind (wpAny_setState_of ho hd R.fits ?_)
  dsimp only
  refine wp_if_neg (by simp [byScan, Value.scannable]) ?_
  try refine wpAny_bind (wpAny_pure ?_)
  refine wpAny_bind (searchN_at R hx hu (fun hm => ?_) fun K hm hK hb => ?_)
  · dsimp only
    exact wpAny_pure (hQ false s.heap L es ep t (Heap.SameBut.refl a s.heap) R (fun _ => rfl) fun z => absurd hm z)
  · dsimp only
    refine wpAny_bind (wpAny_setState_of ho hd R.fits ?_)
    dsimp only
    obtain ⟨q1, q2, q3, q4, q5, q6, q7, q8, q9⟩ := R.tab.put hK hb
    have hp1 : (t.put (way t.mask (k.hash w) K)).1.plain = true := by rw [q6]; exact R.plain
    generalize hpt : t.put (way t.mask (k.hash w) K) = pt at q1 q3 q4 q5 q6 q7 q8 q9 hp1 ⊢
    obtain ⟨t1, p⟩ := pt
    dsimp only at q1 q3 q4 q5 q6 q7 q8 q9 hp1 ⊢
    subst q1
    first
      | (refine wpAny_bind ?_; refine wp_if_pos hp1 ?_; refine hashByN k _ 8 s _ _ _ hx.is hx.dp hx.nm ?_)
      | refine wp_if_pos hp1 (wpAny_bind (hashByN k _ 8 s _ _ _ hx.is hx.dp hx.nm ?_))
    simp only [if_true]
    have hin : (SetTable.insertAt es (SetTable.below t.place (way t.mask (k.hash w) K)) (k.hash w, Value.ref x)).toList = rowsN w (L.take (SetTable.below t.place (way t.mask (k.hash w) K)) ++ (x, k) :: L.drop (SetTable.below t.place (way t.mask (k.hash w) K))) := by
      rw [SetTable.toList_insertAt, R.rows]
      unfold rowsN
      rw [List.map_append, List.map_cons, List.map_take, List.map_drop]
    generalize hpp : SetTable.below t.place (way t.mask (k.hash w) K) = p at q2 q3 hin ⊢
    have pm := put_perm L p (x, k)
    have hlen : (L.take p ++ (x, k) :: L.drop p).length = L.length + 1 := pm.length_eq
    have hhs : (L.take p ++ (x, k) :: L.drop p).map (fun p => p.2.hash w) = (L.map fun p => p.2.hash w).take p ++ k.hash w :: (L.map fun p => p.2.hash w).drop p := by
      rw [List.map_append, List.map_cons, List.map_take, List.map_drop]
    rw [← hhs] at q3
    have nd1 : ((L.take p ++ (x, k) :: L.drop p).map (·.2)).Nodup := by
      refine (pm.map (·.2)).nodup_iff.mpr ?_
      rw [List.map_cons]
      exact List.nodup_cons.mpr ⟨hm, R.nd⟩
    have hes := (rowsN_length _ _ hin).trans hlen
    generalize SetTable.insertAt es p (k.hash w, Value.ref x) = es1 at hin hes ⊢
    generalize L.take p ++ (x, k) :: L.drop p = L1 at pm hlen q3 nd1 hin
    refine wpAny_bind (wpAny_storeSet_of ho hd ?_ (by rw [hes, sizeLine_eq]; omega))
    have sb : Heap.SameBut a s.heap (s.heap.update a (Obj.putSet es1 t1)) := Heap.SameBut.update ..
    have ho1 := store_at (es' := es1) (t' := t1) ho hd
    generalize s.heap.update a (Obj.putSet es1 t1) = h1 at sb ho1 ⊢
    have tup1 : ∀ p ∈ L1, IsN h1 p.2 p.1 := fun p hp => by
      rcases List.mem_cons.mp (pm.mem_iff.mp hp) with e | hp
      · rw [e]; exact hx.same ho hd sb
      · exact (R.tup p hp).same ho hd sb
    have ld1 : w.params.followText "set-order" = true ∨ t1.led = true := by rw [q5]; exact R.led
    by_cases hf : t1.tooFull = true
    · first
        | (refine wpAny_bind ?_; refine wp_if_pos (by simp [hf]) ?_)
        | (refine wp_if_pos (by simp [hf]) ?_; refine wpAny_bind ?_)
      have hfull : (L.length + 1) * 5 ≥ t1.mask * 3 := by
        have h := hf
        unfold SetTable.tooFull at h
        rw [decide_eq_true_eq, q9, List.length_map] at h
        exact h
      rw [hsl]
      have hsz1 : t1.place.size = es1.size := by
        have h := q3.sz
        rw [List.length_map, hlen] at h
        rw [h, hes]
      have cases2 : (t.mask = 7 ∧ L.length = 4) ∨ (t.mask = 31 ∧ L.length = 18) := by
        rcases R.tab.mok with e | e | e
        · left; rw [q4, e] at hfull; rw [e] at hroom; exact ⟨e, by omega⟩
        · right; rw [q4, e] at hfull; rw [e] at hroom; exact ⟨e, by omega⟩
        · exfalso; rw [q4, e] at hfull; omega
      have go : ∀ M, SetTable.sizeAbove (SetTable.grown (L.length + 1)) - 1 = M → MaskOk M → SetTable.sizeAbove (SetTable.grown (L.length + 1)) ≤ 128 → (L.length + 1) * 5 < M * 3 →
          wpAny (model P w) A (setRelay a (SetTable.grown (L.length + 1))) (fun _ s' => wpAny (model P w) A (pure true) Q E s') E { s with heap := h1 } := fun M h1' h2' h3' h4' => by
        refine relayN (s := { s with heap := h1 }) ho1 ⟨hex.1, hex.2.1, hex.2.2⟩ rfl hin hsz1 q3.dm (by rw [hes, q4]; rcases cases2 with ⟨e, e2⟩ | ⟨e, e2⟩ <;> omega) nd1 tup1 hp1 ld1 (by rw [hlen]; exact hfew) h1' h2' h3' (by rw [hlen]; exact h4') ?_
        intro h2 L2 es2 ep2 t2 sb2 R2 pm2
        exact wpAny_pure (hQ true h2 L2 es2 ep2 t2 (sb.trans sb2) R2 (fun z => absurd z hm) fun _ => pm2.trans pm)
      rcases cases2 with ⟨_, e2⟩ | ⟨_, e2⟩
      · exact go 31 (by rw [e2, size_20]) (.inr (.inl rfl)) (by rw [e2, size_20]; decide) (by omega)
      · exact go 127 (by rw [e2, size_76]) (.inr (.inr rfl)) (by rw [e2, size_76]; decide) (by omega)
    · first
        | refine wp_if_neg (by simp [hf]) ?_
        | (refine wpAny_bind ?_; refine wp_if_neg (by simp [hf]) ?_; refine wpAny_pure ?_)
      refine wpAny_pure (hQ true h1 L1 es1 (ep + 1) t1 sb ⟨⟨_, ho1, ⟨hex.1, hex.2.1, hex.2.2⟩, rfl⟩, hin, q3, nd1, tup1, hp1, ld1, ?_, by rw [hlen]; exact hfew⟩ (fun z => absurd z hm) fun _ => pm)
      have h := hf
      unfold SetTable.tooFull at h
      rw [decide_eq_true_eq, q9, List.length_map] at h
      rw [hlen]
      omega

structure GotN (ks : List (Addr × NestedKey)) (i : Nat) (L : List (Addr × NestedKey)) : Prop where
  sub : ∀ p ∈ L, p ∈ ks.take i
  all : ∀ p ∈ ks.take i, p.2 ∈ L.map (·.2)
  len : L.length ≤ i
theorem GotN.step {ks L L' : List (Addr × NestedKey)} {i : Nat} {x : Addr × NestedKey} (g : GotN ks i L) (h : ks[i]? = some x) (c1 : x.2 ∈ L.map (·.2) → L' = L) (c2 : x.2 ∉ L.map (·.2) → L'.Perm (x :: L)) : GotN ks (i + 1) L' := by
  have ht : ks.take (i + 1) = ks.take i ++ [x] := take_next h
  by_cases hm : x.2 ∈ L.map (·.2)
  · rw [c1 hm]
    refine ⟨fun p hp => ?_, fun p hp => ?_, Nat.le_succ_of_le g.len⟩
    · rw [ht]
      exact List.mem_append_left _ (g.sub p hp)
    · rw [ht] at hp
      rcases List.mem_append.mp hp with z | z
      · exact g.all p z
      · rw [List.mem_singleton.mp z]; exact hm
  · have pm := c2 hm
    refine ⟨fun p hp => ?_, fun p hp => ?_, ?_⟩
    · rw [ht]
      rcases List.mem_cons.mp (pm.mem_iff.mp hp) with e | z
      · rw [e]; exact List.mem_append_right _ (List.mem_singleton.mpr rfl)
      · exact List.mem_append_left _ (g.sub p z)
    · rw [(pm.map (·.2)).mem_iff, List.map_cons]
      rw [ht] at hp
      rcases List.mem_append.mp hp with z | z
      · exact List.mem_cons_of_mem _ (g.all p z)
      · rw [List.mem_singleton.mp z]; exact List.mem_cons_self
    · rw [pm.length_eq, List.length_cons]
      exact Nat.succ_le_succ g.len
theorem SetN.keep {h h' : Heap} (R : SetN w h a L es ep t) (ha : ∀ o, h.get? a = some o → h'.get? a = some o) (ht : ∀ p ∈ L, IsN h' p.2 p.1) : SetN w h' a L es ep t := by
  obtain ⟨o, ho, r⟩ := R.ob
  exact ⟨⟨o, ha o ho, r⟩, R.rows, R.tab, R.nd, ht, R.plain, R.led, R.room, R.few⟩
theorem setN_fresh {h : Heap} (ho : h.get? a = some { cls := .type "set", dict := none, data := .set #[] 0 (.fresh 0 0 (!w.params.followText "set-order")) }) : SetN w h a [] #[] 0 (.fresh 0 0 (!w.params.followText "set-order")) where
  ob := ⟨_, ho, ⟨rfl, rfl, rfl⟩, rfl⟩
  rows := rfl
  tab := ⟨List.Pairwise.nil, rfl, rfl, .inl rfl, fun x hx => (by cases hx), fun i h j hi => (by simp at hi)⟩
  nd := List.nodup_nil
  tup := fun p hp => (by cases hp)
  plain := rfl
  led := by
    show _ ∨ (!w.params.followText "set-order") = true
    cases w.params.followText "set-order"
    · exact .inr rfl
    · exact .inl rfl
  room := by
    show 0 * 5 < 7 * 3
    decide
  few := by
    show 0 < 76
    decide
theorem updateN {I : Addr} {fp wr : List Addr} {G : Array GenState → Array GenState → Prop} {n : Nat} {Pv : Nat → Value → Prop} {St : Nat → Shared → Prop} {R : Result → Shared → Prop}
    (W : WalksS P w A.in1 I fp wr G n Pv St) (S : Addr) (hSf : S ∉ fp) (ks : List (Addr × NestedKey)) (hn : n = ks.length) (hfew : ks.length < 76) (hval : ∀ i v, Pv i v → ∃ p, ks[i]? = some p ∧ v = .ref p.1)
    (h0 : Heap) (hk : ∀ p ∈ ks, IsN h0 p.2 p.1) (hS0 : h0.get? S = none) (hw0 : ∀ b ∈ wr, h0.get? b = none) (hu : A.in1.units + 8 < cLine) :
    ∀ (k i : Nat) (s : Shared), n - i = k → i ≤ n → St i s → (∀ b o, h0.get? b = some o → s.heap.get? b = some o) → (∃ L es ep t, SetN w s.heap S L es ep t ∧ GotN ks i L) →
      (∀ s' L es ep t, Moved (S :: wr) G s s' → SetN w s'.heap S L es ep t → GotN ks n L → (∀ b o, h0.get? b = some o → s'.heap.get? b = some o) → R (.ok (.ret .none)) s') →
      codeAny (model P w) A (.builtin "set.update.loop" ⟨[.ref S, .ref I], []⟩) R s := by
  have hSw : S ∉ wr := fun h => hSf (W.sub _ h)
  have hsub : ∀ b ∈ wr, b ∈ S :: wr := fun b hb => List.mem_cons_of_mem _ hb
  have keepM : ∀ {s s' : Shared}, Moved wr G s s' → (∀ b o, h0.get? b = some o → s.heap.get? b = some o) → ∀ b o, h0.get? b = some o → s'.heap.get? b = some o := fun hm hkp b o e =>
    hm.heap b o (fun hb => by rw [hw0 b hb] at e; cases e) (hkp b o e)
  intro k
  induction k with
  | zero =>
    intro i s hk' hi hst hkp ⟨L, es, ep, t, hS, g⟩ hR
    have hin : i = n := by omega
    subst hin
    refine codeAny_builtin F.entry_set_update_loop ?_
    rw [Around.under_plainId F.plain_set_update_loop _]
    show wpAny _ A.in1 (pyNext (.ref I) >>= _) _ _ s
    refine wpAny_bind (W.done s _ _ hst fun s' hm => ?_)
    show wpAny _ A.in1 (ret Value.none) _ _ s'
    have hkp' := keepM hm hkp
    have sub : ∀ p ∈ L, p ∈ ks := fun p hp => List.mem_of_mem_take (g.sub p hp)
    exact wpAny_pure (hR s' L es ep t (hm.mono hsub) (hS.keep (fun o e => hm.heap S o hSw e) fun p hp => (hk p (sub p hp)).keep hkp') g hkp')
  | succ k ih =>
    intro i s hk' hi hst hkp ⟨L, es, ep, t, hS, g⟩ hR
    have hlt : i < n := by omega
    refine codeAny_builtin F.entry_set_update_loop ?_
    rw [Around.under_plainId F.plain_set_update_loop _]
    show wpAny _ A.in1 (pyNext (.ref I) >>= _) _ _ s
    refine wpAny_bind (W.item i s _ _ hlt hst fun v s' hP hst' hm => ?_)
    obtain ⟨p, hp, rfl⟩ := hval i v hP
    have hkp' := keepM hm hkp
    have sub : ∀ p ∈ L, p ∈ ks := fun p hp => List.mem_of_mem_take (g.sub p hp)
    have hS' : SetN w s'.heap S L es ep t := hS.keep (fun o e => hm.heap S o hSw e) fun q hq => (hk q (sub q hq)).keep hkp'
    have hx : IsN s'.heap p.2 p.1 := (hk p (List.mem_of_getElem? hp)).keep hkp'
    show wpAny _ A.in1 (holding [Value.ref p.1] (setAdd S (.ref p.1)) >>= _) _ _ s'
    refine wpAny_bind (wpAny_holding ?_)
    unfold setAdd
    refine wpAny_holding ?_
    refine wpAny_bind (pyHash_key p.2 _ A.in1 s' _ hx.is (by have := hx.dp; omega) ?_)
    refine addN (s := { s' with toks := s'.toks + p.2.draws }) hS' hx hu (by have := g.len; omega) fun b h' L' es' ep' t' hsb hS2 c1 c2 => ?_
    have g' := g.step hp c1 c2
    have hkp2 : ∀ b o, h0.get? b = some o → h'.get? b = some o := fun b o e => (hsb.2 b (fun z => by rw [z, hS0] at e; cases e)).trans (hkp' b o e)
    refine wpAny_pure ⟨plainId_quiet F.plain_set_update_loop _, ih (i + 1) _ (by omega) hlt (W.frame _ s' _ _ hst' (Nat.le_add_right _ _) fun b hb o e => ?_) hkp2 ⟨L', es', ep', t', hS2, g'⟩ fun s'' L2 es2 ep2 t2 hm'' hS'' g'' hkp'' => ?_⟩
    · rw [hsb.2 b (fun h : b = S => hSf (by rw [← h]; exact hb))]; exact e
    · refine hR s'' L2 es2 ep2 t2 (Moved.trans W.gtrans ((hm.mono hsub).then_heap (Nat.le_add_right _ _) fun b o hb e => ?_) hm'') hS'' g'' hkp''
      rw [hsb.2 b (fun h : b = S => hb (by rw [h]; exact List.mem_cons_self))]; exact e
end
end Mini
namespace Mini
open PySem PySem.Spec PyProof.Rows L2
section
variable {P : Program} {w : World} {A : Around} {E : Value → Shared → Prop} {s : Shared}
set_option maxHeartbeats 8000000 in
theorem call_setN_list {l : Addr} {items : Array Value} (ks : List (Addr × NestedKey)) {Q : Value → Shared → Prop} (hh : A.handled = none) (hl : s.heap.IsList l items) (hit : items.toList = ks.map fun p => Value.ref p.1)
    (hk : ∀ p ∈ ks, IsN s.heap p.2 p.1) (hfew : ks.length < 76) (hu : A.units + 12 < cLine)
    (h : ∀ (h' : Heap) (tk : Nat) L es ep t, SetN w h' s.heap.objs.size L es ep t → GotN ks ks.length L → (∀ b o, s.heap.get? b = some o → h'.get? b = some o) → Q (.ref s.heap.objs.size) { s with heap := h', toks := tk }) :
    wpAny (model P w) A (call (.type "set") [.ref l]) Q E s := by
  have hisz : items.size = ks.length := by
    have q := congrArg List.length hit
    rw [Array.length_toList, List.length_map] at q
    exact q
  obtain ⟨c, tl, hmro⟩ := F.called_set.mro
  have hmade := F.called_set.made
  have hsub := F.called_set.sub
  refine wpAny_call (codeAny_of_tree ?_)
  show wpAny _ _ (callAny (.type "set") _) _ _ _
  refine wpAny_pure ⟨Code.quiet_builtin _ (by decide +kernel), codeAny_builtin F.entry_type_call ?_⟩
  rw [Around.under_plain (weight_type_call_type "set" [.ref l] []) rfl]
  have h1 := F.called_set.notType
  have h2 := F.called_set.canCreate
  have hct := F.typeCall_set_1 (.ref l)
  repeat (any_goals (first | assumption | wp_step))
  refine codeAny_mono (code_set_led1 (.ref l) (E := E) (Q₁ := fun obj s₁ => obj = .ref s.heap.objs.size ∧ s₁ = { s with heap := s.heap.push { cls := .type "set", dict := none, data := .set #[] 0 (.fresh 0 0 (!w.params.followText "set-order")) } }) ⟨rfl, rfl⟩) fun r s₁ hr => ?_
  cases r with
  | error e => exact hr
  | ok fl =>
    cases fl with
    | ret obj =>
      obtain ⟨rfl, rfl⟩ := hr
      have hS : (s.heap.push { cls := .type "set", dict := none, data := .set #[] 0 (.fresh 0 0 (!w.params.followText "set-order")) }).get? s.heap.objs.size = some { cls := .type "set", dict := none, data := .set #[] 0 (.fresh 0 0 (!w.params.followText "set-order")) } := Heap.get?_push_size _ rfl
      have hT : Shared.TypeIs { s with heap := s.heap.push { cls := .type "set", dict := none, data := .set #[] 0 (.fresh 0 0 (!w.params.followText "set-order")) } } (.ref s.heap.objs.size) "set" := ⟨_, hS, rfl⟩
      have hli := F.called_set.init.lookup
      have hbi := F.called_set.init.bind (.ref s.heap.objs.size)
      repeat (any_goals (first | assumption | wp_step))
      refine codeAny_mono (codeAny_call_builtin (R := wants (fun r s₂ => r = .none ∧ ∃ h' tk L es ep t, s₂ = { s with heap := h', toks := tk } ∧ SetN w h' s.heap.objs.size L es ep t ∧ GotN ks ks.length L ∧
          (∀ b o, s.heap.get? b = some o → h'.get? b = some o)) E) F.called_set.init.plain F.entry_set_init (check_set_init_1 hT ?_)) fun r₂ s₂ hr₂ => ?_
      · obtain ⟨ol, hol, hcl, nl, hdl⟩ := hl
        obtain ⟨ocls, odict, odata, oslots⟩ := ol
        simp only at hcl hdl
        subst hcl; subst hdl
        have hol' : (s.heap.push { cls := .type "set", dict := none, data := .set #[] 0 (.fresh 0 0 (!w.params.followText "set-order")) }).get? l = some { cls := .type "list", dict := odict, data := .seq items nl, slots := oslots } := Heap.get?_push_of_some _ hol
        have hsls := F.sub_list_set
        have hslf := F.sub_list_frozenset
        have hne : (Value.type "list" == Value.type "dict") = false := by decide
        have hl1 : (s.heap.push { cls := .type "set", dict := none, data := .set #[] 0 (.fresh 0 0 (!w.params.followText "set-order")) }).IsList l items := ⟨_, hol', rfl, nl, rfl⟩
        unfold Builtin.«set.__init__» noKeywords Builtin.Frozenset.updateFrom
        generalize hPI : pyIter = PI
        wp_walk
        subst hPI
        refine wpAny_pyIter_list hl1 ?_
        refine wpAny_bind (wpAny_runValue ?_)
        have hlS : l < s.heap.objs.size := Heap.lt_size hol
        have hh3 : A.in1.in1.in1.handled = none := by simp [hh]
        have hneI : l ≠ (s.heap.push { cls := .type "set", dict := none, data := .set #[] 0 (.fresh 0 0 (!w.params.followText "set-order")) }).objs.size := by
          rw [Heap.size_push]; exact Nat.ne_of_lt (Nat.lt_succ_of_lt hlS)
        have hSf : s.heap.objs.size ∉ [(s.heap.push { cls := .type "set", dict := none, data := .set #[] 0 (.fresh 0 0 (!w.params.followText "set-order")) }).objs.size, l] := by
          rw [Heap.size_push]; simp only [List.mem_cons, List.mem_singleton, List.not_mem_nil, or_false, not_or]
          exact ⟨Nat.ne_of_lt (Nat.lt_succ_self _), Nat.ne_of_gt hlS⟩
        have hval : ∀ (i : Nat) (v : Value), items[i]? = some v → ∃ p, ks[i]? = some p ∧ v = .ref p.1 := fun i v hv => by
          have q : items.toList[i]? = some v := by rw [Array.getElem?_toList]; exact hv
          rw [hit, List.getElem?_map] at q
          cases hq : ks[i]? with
          | none => rw [hq] at q; cases q
          | some p =>
            rw [hq] at q
            exact ⟨p, rfl, (Option.some.inj q).symm⟩
        have none_of : ∀ b, s.heap.objs.size ≤ b → s.heap.get? b = none := fun b hb => by
          cases q : s.heap.get? b with
          | none => rfl
          | some o => exact absurd (Nat.lt_of_lt_of_le (Heap.lt_size q) hb) (Nat.lt_irrefl _)
        refine updateN ((Walks.list hh3 _ l hneI items).toS) s.heap.objs.size
          hSf ks hisz hfew hval s.heap hk (none_of _ (Nat.le_refl _)) (fun b hb => none_of b (by
            rw [List.mem_singleton.mp hb, Heap.size_push]
            exact Nat.le_succ _)) (by show A.units + 1 + 1 + 1 + 8 < cLine; omega) (items.size - 0) 0 _ (by omega) (Nat.zero_le _)
          ⟨⟨_, Heap.get?_push_size _ rfl, rfl, rfl⟩, (hl1.push _)⟩ (fun b o e => Heap.get?_push_of_some _ (Heap.get?_push_of_some _ e)) ?hS0 ?hR
        case hS0 => exact ⟨[], #[], 0, _, setN_fresh (Heap.get?_push_of_some _ hS), ⟨fun p h => (by cases h), fun p h => (by simp at h), Nat.le_refl _⟩⟩
        case hR =>
          intro s' L es ep t hm hS' g' hkp
          obtain ⟨h', g2, d', tk', os'⟩ := s'
          have eg : g2 = s.gens := hm.gens
          have ed : d' = s.drawn := hm.drawn
          have eo : os' = s.os := hm.os
          subst eg; subst ed; subst eo
          show wpAny _ _ _ _ _ _
          refine wpAny_pure ?_
          show wpAny _ _ (ret Value.none) _ _ _
          rw [hisz] at g'
          exact wpAny_pure ⟨rfl, h', tk', L, es, ep, t, rfl, hS', g', hkp⟩
      · cases r₂ with
        | error e => exact hr₂
        | ok fl₂ =>
          cases fl₂ with
          | ret r =>
            obtain ⟨rfl, h', tk, L, es, ep, t, rfl, hS', g', hk'⟩ := hr₂
            repeat (any_goals (first | assumption | wp_step))
            exact h _ _ _ _ _ _ hS' g' hk'
          | _ => exact hr₂.elim
    | _ => exact hr.elim

set_option maxHeartbeats 8000000 in
theorem call_setN_tuple {l : Addr} {items : Array Value} (ks : List (Addr × NestedKey)) {Q : Value → Shared → Prop} (hh : A.handled = none) (hl : s.heap.IsTuple l items) (hit : items.toList = ks.map fun p => Value.ref p.1)
    (hk : ∀ p ∈ ks, IsN s.heap p.2 p.1) (hfew : ks.length < 76) (hu : A.units + 12 < cLine)
    (h : ∀ (h' : Heap) (tk : Nat) L es ep t, SetN w h' s.heap.objs.size L es ep t → GotN ks ks.length L → (∀ b o, s.heap.get? b = some o → h'.get? b = some o) → Q (.ref s.heap.objs.size) { s with heap := h', toks := tk }) :
    wpAny (model P w) A (call (.type "set") [.ref l]) Q E s := by
  have hisz : items.size = ks.length := by
    have q := congrArg List.length hit
    rw [Array.length_toList, List.length_map] at q
    exact q
  obtain ⟨c, tl, hmro⟩ := F.called_set.mro
  have hmade := F.called_set.made
  have hsub := F.called_set.sub
  refine wpAny_call (codeAny_of_tree ?_)
  show wpAny _ _ (callAny (.type "set") _) _ _ _
  refine wpAny_pure ⟨Code.quiet_builtin _ (by decide +kernel), codeAny_builtin F.entry_type_call ?_⟩
  rw [Around.under_plain (weight_type_call_type "set" [.ref l] []) rfl]
  have h1 := F.called_set.notType
  have h2 := F.called_set.canCreate
  have hct := F.typeCall_set_1 (.ref l)
  repeat (any_goals (first | assumption | wp_step))
  refine codeAny_mono (code_set_led1 (.ref l) (E := E) (Q₁ := fun obj s₁ => obj = .ref s.heap.objs.size ∧ s₁ = { s with heap := s.heap.push { cls := .type "set", dict := none, data := .set #[] 0 (.fresh 0 0 (!w.params.followText "set-order")) } }) ⟨rfl, rfl⟩) fun r s₁ hr => ?_
  cases r with
  | error e => exact hr
  | ok fl =>
    cases fl with
    | ret obj =>
      obtain ⟨rfl, rfl⟩ := hr
      have hS : (s.heap.push { cls := .type "set", dict := none, data := .set #[] 0 (.fresh 0 0 (!w.params.followText "set-order")) }).get? s.heap.objs.size = some { cls := .type "set", dict := none, data := .set #[] 0 (.fresh 0 0 (!w.params.followText "set-order")) } := Heap.get?_push_size _ rfl
      have hT : Shared.TypeIs { s with heap := s.heap.push { cls := .type "set", dict := none, data := .set #[] 0 (.fresh 0 0 (!w.params.followText "set-order")) } } (.ref s.heap.objs.size) "set" := ⟨_, hS, rfl⟩
      have hli := F.called_set.init.lookup
      have hbi := F.called_set.init.bind (.ref s.heap.objs.size)
      repeat (any_goals (first | assumption | wp_step))
      refine codeAny_mono (codeAny_call_builtin (R := wants (fun r s₂ => r = .none ∧ ∃ h' tk L es ep t, s₂ = { s with heap := h', toks := tk } ∧ SetN w h' s.heap.objs.size L es ep t ∧ GotN ks ks.length L ∧
          (∀ b o, s.heap.get? b = some o → h'.get? b = some o)) E) F.called_set.init.plain F.entry_set_init (check_set_init_1 hT ?_)) fun r₂ s₂ hr₂ => ?_
      · obtain ⟨ol, hol, hcl, nl, hdl⟩ := hl
        obtain ⟨ocls, odict, odata, oslots⟩ := ol
        simp only at hcl hdl
        subst hcl; subst hdl
        have hol' : (s.heap.push { cls := .type "set", dict := none, data := .set #[] 0 (.fresh 0 0 (!w.params.followText "set-order")) }).get? l = some { cls := .type "tuple", dict := odict, data := .seq items nl, slots := oslots } := Heap.get?_push_of_some _ hol
        have hsls := F.sub_tuple_set
        have hslf := F.sub_tuple_frozenset
        have hne : (Value.type "tuple" == Value.type "dict") = false := by decide
        have hl1 : (s.heap.push { cls := .type "set", dict := none, data := .set #[] 0 (.fresh 0 0 (!w.params.followText "set-order")) }).IsTuple l items := ⟨_, hol', rfl, nl, rfl⟩
        unfold Builtin.«set.__init__» noKeywords Builtin.Frozenset.updateFrom
        generalize hPI : pyIter = PI
        wp_walk
        subst hPI
        refine wpAny_pyIter_tuple hl1 ?_
        refine wpAny_bind (wpAny_runValue ?_)
        have hlS : l < s.heap.objs.size := Heap.lt_size hol
        have hh3 : A.in1.in1.in1.handled = none := by simp [hh]
        have hneI : l ≠ (s.heap.push { cls := .type "set", dict := none, data := .set #[] 0 (.fresh 0 0 (!w.params.followText "set-order")) }).objs.size := by
          rw [Heap.size_push]; exact Nat.ne_of_lt (Nat.lt_succ_of_lt hlS)
        have hSf : s.heap.objs.size ∉ [(s.heap.push { cls := .type "set", dict := none, data := .set #[] 0 (.fresh 0 0 (!w.params.followText "set-order")) }).objs.size, l] := by
          rw [Heap.size_push]; simp only [List.mem_cons, List.mem_singleton, List.not_mem_nil, or_false, not_or]
          exact ⟨Nat.ne_of_lt (Nat.lt_succ_self _), Nat.ne_of_gt hlS⟩
        have hval : ∀ (i : Nat) (v : Value), items[i]? = some v → ∃ p, ks[i]? = some p ∧ v = .ref p.1 := fun i v hv => by
          have q : items.toList[i]? = some v := by rw [Array.getElem?_toList]; exact hv
          rw [hit, List.getElem?_map] at q
          cases hq : ks[i]? with
          | none => rw [hq] at q; cases q
          | some p =>
            rw [hq] at q
            exact ⟨p, rfl, (Option.some.inj q).symm⟩
        have none_of : ∀ b, s.heap.objs.size ≤ b → s.heap.get? b = none := fun b hb => by
          cases q : s.heap.get? b with
          | none => rfl
          | some o => exact absurd (Nat.lt_of_lt_of_le (Heap.lt_size q) hb) (Nat.lt_irrefl _)
        refine updateN ((Walks.tuple hh3 _ l hneI items).toS) s.heap.objs.size
          hSf ks hisz hfew hval s.heap hk (none_of _ (Nat.le_refl _)) (fun b hb => none_of b (by
            rw [List.mem_singleton.mp hb, Heap.size_push]
            exact Nat.le_succ _)) (by show A.units + 1 + 1 + 1 + 8 < cLine; omega) (items.size - 0) 0 _ (by omega) (Nat.zero_le _)
          ⟨⟨_, Heap.get?_push_size _ rfl, rfl, rfl⟩, (hl1.push _)⟩ (fun b o e => Heap.get?_push_of_some _ (Heap.get?_push_of_some _ e)) ?hS0 ?hR
        case hS0 => exact ⟨[], #[], 0, _, setN_fresh (Heap.get?_push_of_some _ hS), ⟨fun p h => (by cases h), fun p h => (by simp at h), Nat.le_refl _⟩⟩
        case hR =>
          intro s' L es ep t hm hS' g' hkp
          obtain ⟨h', g2, d', tk', os'⟩ := s'
          have eg : g2 = s.gens := hm.gens
          have ed : d' = s.drawn := hm.drawn
          have eo : os' = s.os := hm.os
          subst eg; subst ed; subst eo
          show wpAny _ _ _ _ _ _
          refine wpAny_pure ?_
          show wpAny _ _ (ret Value.none) _ _ _
          rw [hisz] at g'
          exact wpAny_pure ⟨rfl, h', tk', L, es, ep, t, rfl, hS', g', hkp⟩
      · cases r₂ with
        | error e => exact hr₂
        | ok fl₂ =>
          cases fl₂ with
          | ret r =>
            obtain ⟨rfl, h', tk, L, es, ep, t, rfl, hS', g', hk'⟩ := hr₂
            repeat (any_goals (first | assumption | wp_step))
            exact h _ _ _ _ _ _ hS' g' hk'
          | _ => exact hr₂.elim
    | _ => exact hr.elim
end
end Mini
namespace Mini
open PySem PySem.Spec PySem.W PyProof.Rows L2

mutual
theorem nested_of {Y : Lay} {ι : Nat → Addr} {n : Nat} {X : Cx} {pins : List (Addr × Obj)} {σ : L2.St} {H : Hp} {s : Shared} (I : Inv X pins σ H s) : ∀ {v : MV} {x : V} {u : Value} {k : NestedKey}, Rep Y ι n H v x → RelV x u → v.key = some k → NestedIs s.heap k u
  | _, _, _, _, .non, r, h => by cases r; cases h; exact .none
  | _, _, _, _, .bl b, r, h => by cases r; cases h; exact .bool rfl
  | _, _, _, _, .int i, r, h => by obtain ⟨t, rfl⟩ := r; cases h; exact .int _ _
  | _, _, _, _, .str x, r, h => by obtain ⟨t, rfl⟩ := r; cases h; exact .text _ _
  | _, _, _, _, .tup e ra, r, h => by
    simp only [MV.key, Option.map_eq_some_iff] at h
    obtain ⟨ks, hk, rfl⟩ := h
    cases r
    obtain ⟨its, rv, ⟨o, ho, hc, m, hd⟩, hz⟩ := I.tuple (SqT.of (K := X.K) e)
    exact .tup ho hc hd (nested_all I ra (by simpa using rv) hk)
  | _, _, _, _, .fl _ _ _, _, h => by simp [MV.key] at h
  | _, _, _, _, .sc _ _ _, _, h => by simp [MV.key] at h
  | _, _, _, _, .fd _ _ _ _ _, _, h => by simp [MV.key] at h
  | _, _, _, _, .fs _ _ _ _ _, _, h => by simp [MV.key] at h
  | _, _, _, _, .fi _ _ _ _, _, h => by simp [MV.key] at h
  | _, _, _, _, .ex0 _ _, _, h => by simp [MV.key] at h
  | _, _, _, _, .ex1 _ _ _ _ _, _, h => by simp [MV.key] at h
  | _, _, _, _, .ref _, _, h => by simp [MV.key] at h
theorem nested_all {Y : Lay} {ι : Nat → Addr} {n : Nat} {X : Cx} {pins : List (Addr × Obj)} {σ : L2.St} {H : Hp} {s : Shared} (I : Inv X pins σ H s) : ∀ {vs : List MV} {xs : List V} {us : List Value} {ks : List NestedKey}, RepAll Y ι n H vs xs → Vals xs us → keyAll vs = some ks → NestedAll s.heap ks us
  | _, _, _, _, .nil, .nil, h => by cases h; exact .nil
  | _, _, _, _, .cons (x := v) r rs, .cons q qs, h => by
    unfold keyAll at h
    cases e1 : v.key with
    | none => simp [e1] at h
    | some k =>
      cases e2 : keyAll _ with
      | none => simp only [e1] at h; rw [e2] at h; cases h
      | some ks =>
        simp only [e1] at h
        rw [e2] at h
        cases h
        exact .cons (nested_of I r q e1) (nested_all I rs qs e2)
end
theorem each_perm {α β : Type} {R : α → β → Prop} {as as' : List α} (p : as'.Perm as) : ∀ {bs : List β}, EachIs R as bs → ∃ bs', bs'.Perm bs ∧ EachIs R as' bs' := by
  induction p with
  | nil => intro bs e; exact ⟨bs, .refl _, e⟩
  | cons x _ ih =>
    intro bs e
    cases e with
    | cons h t =>
      obtain ⟨bs', p, e'⟩ := ih t
      exact ⟨_ :: bs', p.cons _, .cons h e'⟩
  | swap x y l =>
    intro bs e
    cases e with
    | cons h1 t =>
      cases t with
      | cons h2 t => exact ⟨_, .swap _ _ _, .cons h2 (.cons h1 t)⟩
  | trans _ _ ih1 ih2 =>
    intro bs e
    obtain ⟨b1, p1, e1⟩ := ih2 e
    obtain ⟨b2, p2, e2⟩ := ih1 e1
    exact ⟨b2, p2.trans p1, e2⟩

abbrev sLe : MV → MV → Bool := dataLe false MV.dat
structure SortOk (xs : List MV) : Prop where
  sok : sokAll xs = true
  al : AllAlike (xs.map MV.dat)
  so : Sortable (xs.map MV.dat)
  dp : ∀ x ∈ xs, x.dat.depth ≤ 50
  len : xs.length ≤ sizeLine
theorem sok_mem {xs : List MV} (h : sokAll xs = true) {x : MV} (hx : x ∈ xs) : x.sok = true := by
  induction xs with
  | nil => cases hx
  | cons y ys ih =>
    simp only [sokAll, Bool.and_eq_true] at h
    rcases List.mem_cons.mp hx with e | hx
    · rw [e]; exact h.1
    · exact ih h.2 hx
theorem sok_perm {xs ys : List MV} (p : ys.Perm xs) (h : sokAll xs = true) : sokAll ys = true := by
  have key : ∀ ys : List MV, (∀ y ∈ ys, y.sok = true) → sokAll ys = true := by
    intro ys
    induction ys with
    | nil => intro _; rfl
    | cons y ys ih =>
      intro hy
      simp only [sokAll, Bool.and_eq_true]
      exact ⟨hy y List.mem_cons_self, ih fun z hz => hy z (List.mem_cons_of_mem _ hz)⟩
  exact key ys fun y hy => sok_mem h (p.mem_iff.mp hy)
theorem SortOk.perm {xs ys : List MV} (p : ys.Perm xs) (h : SortOk xs) : SortOk ys where
  sok := sok_perm p h.sok
  al := fun d hd d' hd' => h.al d ((p.map _).mem_iff.mp hd) d' ((p.map _).mem_iff.mp hd')
  so := h.so.imp (fun z d hd => z d ((p.map _).mem_iff.mp hd)) fun z d hd => z d ((p.map _).mem_iff.mp hd)
  dp := fun x hx => h.dp x (p.mem_iff.mp hx)
  len := by rw [p.length_eq]; exact h.len
section
variable {Y : Lay} {W : WX} {X : Cx} {ι : Nat → Addr} {n : Nat} {H : Hp} {pins : List (Addr × Obj)} {σ : L2.St} {s : Shared}
def Tri (Y : Lay) (ι : Nat → Addr) (n : Nat) (H : Hp) (h : Heap) : Value → MV × V → Prop := fun u p => (Rep Y ι n H p.1 p.2 ∧ RelV p.2 u) ∧ ∃ as, Reads h u p.1.dat as
theorem tri_of (I : Inv X pins σ H s) : ∀ {xs : List MV} {ws : List V} {us : List Value}, RepAll Y ι n H xs ws → Vals ws us → sokAll xs = true → EachIs (Tri Y ι n H s.heap) us (xs.zip ws) ∧ (xs.zip ws).map (·.1) = xs
  | _, _, _, .nil, .nil, _ => ⟨.nil, rfl⟩
  | _, _, _, .cons r rs, .cons q qs, h => by
    simp only [sokAll, Bool.and_eq_true] at h
    obtain ⟨e1, e2⟩ := tri_of I rs qs h.2
    refine ⟨.cons ⟨⟨r, q⟩, Dp.reads I _ _ _ (dp_of X.K r h.1) q⟩ e1, ?_⟩
    rw [List.zip_cons_cons, List.map_cons, e2]
theorem tri_back {us : List Value} {bs : List (MV × V)} (e : EachIs (fun u (p : MV × V) => Rep Y ι n H p.1 p.2 ∧ RelV p.2 u) us bs) : RepAll Y ι n H (bs.map (·.1)) (bs.map (·.2)) ∧ Vals (bs.map (·.2)) us := by
  induction e with
  | nil => exact ⟨.nil, .nil⟩
  | cons h t ih => exact ⟨.cons h.1 ih.1, .cons h.2 ih.2⟩
theorem enc_map {bs : List (MV × V)} {xs : List MV} (h : bs.map (·.1) = xs) : bs.map (fun p : MV × V => p.1.dat) = xs.map MV.dat := by rw [← h, List.map_map] <;> rfl
theorem sorted_is {us out : List Value} {bs : List (MV × V)} {xs : List MV} (hb : bs.map (·.1) = xs) (e : EachIs (fun u (p : MV × V) => Rep Y ι n H p.1 p.2 ∧ RelV p.2 u) out (bs.mergeSort (dataLe false fun p : MV × V => p.1.dat))) :
    ∃ ws, RepAll Y ι n H (xs.mergeSort sLe) ws ∧ Vals ws out := by
  obtain ⟨r1, r2⟩ := tri_back e
  have z : (bs.mergeSort (dataLe false fun p : MV × V => p.1.dat)).map (·.1) = xs.mergeSort sLe := by
    rw [← hb]
    exact sort_maps (fun p : MV × V => p.1) fun a _ b _ => rfl
  rw [z] at r1
  exact ⟨_, r1, r2⟩
def sortM (vs : List MV) (h : MHp) (Q : MQ) : Prop := ∃ v xs, vs = [v] ∧ lstOf h v = some xs ∧ SortOk xs ∧ Q (.fl (xs.mergeSort sLe)) h
def sortMC (vs : List MV) (h : MHp) (Q : MQ) : Prop := ∃ v xs, vs = [v] ∧ lstOf h v = some xs ∧ SortOk xs ∧ Q (.ref h.length) (h ++ [.lst (xs.mergeSort sLe)])
theorem sort_run {l : Addr} {xs : List MV} {ws : List V} {Q : VK} (hu : X.A.units + 64 < cLine) (I : Inv X pins σ H s) (hl : SqL X.K H l ws) (r : RepAll Y ι n H xs ws) (so : SortOk xs)
    (q : ∀ ws', RepAll Y ι n H (xs.mergeSort sLe) ws' → ∀ p, H p = none → Q (.ref p) (upd H p (.lst ws'))) : wpAny (model X.prog X.w) X.A (call (.builtin "sorted") [.ref l]) (EP X pins σ Q) X.xe s := by
  obtain ⟨its, rv, pl, hz⟩ := I.list hl
  obtain ⟨e1, e2⟩ := tri_of I r rv so.sok
  have hlen : (xs.zip ws).length = xs.length := by rw [← congrArg List.length e2, List.length_map]
  have henc := enc_map e2
  refine sorted_data (R := fun u (p : MV × V) => Rep Y ι n H p.1 p.2 ∧ RelV p.2 u) (enc := fun p : MV × V => p.1.dat) pl.isList (e1.mono fun _ _ z => z.1) (e1.mono fun _ _ z => z.2) (by rw [henc]; exact so.al) (by rw [henc]; exact so.so) (by rw [hlen]; exact so.len)
    (fun b hb => by
      have hm : b.1 ∈ xs := by rw [← e2]; exact List.mem_map.mpr ⟨b, hb, rfl⟩
      have := so.dp _ hm
      omega) fun out ho eo => ?_
  obtain ⟨ws', r1, r2⟩ := sorted_is (us := its) e2 eo
  obtain ⟨c, hc⟩ := sortedAll_at s.heap its out.toArray
  have hn : H (s.heap.objs.size + 1) = none := I.hok.fresh (Nat.le_succ _)
  refine ⟨.ref (s.heap.objs.size + 1), upd H (s.heap.objs.size + 1) (.lst ws'), I.laid (t' := s.toks) (fun b o e => sortedAll_old e) (Nat.le_succ _) ?_, rfl, q ws' r1 _ hn⟩
  refine ⟨?_, out, c, r2, hc⟩
  rw [r2.length, ho, hlen]
  exact so.len
theorem call_sortM (hu : X.A.units + 64 < cLine) : CallR X (.builtin "sorted") (RNM Y sortM) := by
  intro pins s σ H xs us Q I rx ⟨ι, hm, vs, Qm, hr, ra, ⟨v, ys, e, e2, so, q⟩, tq⟩
  subst e
  obtain ⟨x, rfl, r⟩ := rep1 ra
  obtain ⟨p, ws, rfl, sq, rr⟩ := lstOf_rep X.K hr r e2
  rw [Vals.ref1 rx]
  exact sort_run hu I sq rr so fun ws' r' p hp => tq.newL hr r' q hp
theorem call_sortMC (hu : X.A.units + 64 < cLine) : CallR X (.builtin "sorted") (RNM Y sortMC) := by
  intro pins s σ H xs us Q I rx ⟨ι, hm, vs, Qm, hr, ra, ⟨v, ys, e, e2, so, q⟩, tq⟩
  subst e
  obtain ⟨x, rfl, r⟩ := rep1 ra
  obtain ⟨p, ws, rfl, sq, rr⟩ := lstOf_rep X.K hr r e2
  rw [Vals.ref1 rx]
  exact sort_run hu I sq rr so fun ws' r' p hp => tq.newC hr r' q hp

def setOk (x : MV) : Prop := ∃ xs k, x = .tup xs ∧ x.key = some k ∧ k.depth ≤ 8 ∧ nkNum k = true
def setM (vs : List MV) (h : MHp) (Q : MQ) : Prop := ∃ v xs, vs = [v] ∧ seqOf h v = some xs ∧ xs.length < 64 ∧ (∀ x ∈ xs, setOk x) ∧
  ∀ zs, (∀ z ∈ zs, z ∈ xs) → (∀ x ∈ xs, x.key ∈ zs.map MV.key) → (zs.map MV.key).Nodup → zs.length ≤ xs.length → Q (.fs zs) h
theorem ks_of {H : Hp} (I : Inv X pins σ H s) : ∀ {xs : List MV} {ws : List V} {us : List Value}, RepAll Y ι n H xs ws → Vals ws us → (∀ x ∈ xs, setOk x) →
    ∃ ks : List (Addr × NestedKey), us = ks.map (fun p => Value.ref p.1) ∧ ks.length = xs.length ∧ (∀ p ∈ ks, IsN s.heap p.2 p.1) ∧ (∀ p ∈ ks, ∃ x ∈ xs, Rep Y ι n H x (.ref p.1) ∧ x.key = some p.2) ∧ ∀ x ∈ xs, ∃ p ∈ ks, x.key = some p.2
  | _, _, _, .nil, .nil, _ => ⟨[], rfl, rfl, fun _ h => (nomatch h), fun _ h => (nomatch h), fun _ h => (nomatch h)⟩
  | x :: xs, _, _, .cons r rs, .cons q qs, h => by
    obtain ⟨ks, e, hl, h1, h2, h3⟩ := ks_of I rs qs fun y hy => h y (List.mem_cons_of_mem _ hy)
    obtain ⟨ys, k, rfl, hk, hd, hn⟩ := h x List.mem_cons_self
    have hne := nested_of I r q hk
    cases r with
    | @tup _ vs a ea ra =>
      cases q
      refine ⟨(a, k) :: ks, by rw [e] <;> rfl, by simp [hl], fun p hp => ?_, fun p hp => ?_, fun y hy => ?_⟩
      · rcases List.mem_cons.mp hp with e | hp
        · rw [e]; exact ⟨hne, hd, hn⟩
        · exact h1 p hp
      · rcases List.mem_cons.mp hp with e | hp
        · rw [e]; exact ⟨_, List.mem_cons_self, .tup ea ra, hk⟩
        · obtain ⟨y, hy, r⟩ := h2 p hp
          exact ⟨y, List.mem_cons_of_mem _ hy, r⟩
      · rcases List.mem_cons.mp hy with e | hy
        · rw [e]; exact ⟨_, List.mem_cons_self, hk⟩
        · obtain ⟨p, hp, r⟩ := h3 y hy
          exact ⟨p, List.mem_cons_of_mem _ hp, r⟩
theorem zs_of {xs : List MV} : ∀ {L : List (Addr × NestedKey)}, (∀ p ∈ L, ∃ x ∈ xs, Rep Y ι n H x (.ref p.1) ∧ x.key = some p.2) →
    ∃ zs : List MV, RepAll Y ι n H zs (L.map fun p => V.ref p.1) ∧ zs.map MV.key = L.map (fun p => some p.2) ∧ zs.length = L.length ∧ ∀ z ∈ zs, z ∈ xs
  | [], _ => ⟨[], .nil, rfl, rfl, fun _ h => nomatch h⟩
  | p :: L, h => by
    obtain ⟨zs, a1, a2, a3, a4⟩ := zs_of fun q hq => h q (List.mem_cons_of_mem _ hq)
    obtain ⟨x, hx, r, hk⟩ := h p List.mem_cons_self
    refine ⟨x :: zs, .cons r a1, by rw [List.map_cons, List.map_cons, a2, hk], by simp [a3], fun z hz => ?_⟩
    rcases List.mem_cons.mp hz with e | hz
    · rw [e]; exact hx
    · exact a4 z hz
def entsOf (L : List (Addr × NestedKey)) : List SEnt := L.map fun p => (p.2, V.ref p.1)
theorem sO_new {P : Program} {w : World} {H : Hp} {h : Heap} {a : Addr} {L : List (Addr × NestedKey)} {es : Array (Int × Value)} {ep : Nat} {t : SetTable} (R : SetN w h a L es ep t) : ObjOk P w H h a (sO w a (entsOf L)) := by
  obtain ⟨o, ho, hex, hd⟩ := R.ob
  have pr : Paired (fun (p : SEnt) (e : Int × Value) => e.1 = p.1.hash w ∧ RelV p.2 e.2) (entsOf L) es.toList := by
    rw [R.rows]
    unfold entsOf rowsN
    clear R ho hd
    induction L with
    | nil => exact .nil
    | cons p L ih => exact .cons ⟨rfl, rfl⟩ ih
  have tb : TabOk t ((entsOf L).map fun p => p.1.hash w) := by
    have := R.tab
    unfold entsOf
    rw [List.map_map]
    exact this
  have rm : (entsOf L).length * 5 < t.mask * 3 := by
    unfold entsOf
    rw [List.length_map]
    exact R.room
  refine ⟨⟨o, es, ep, t, ho, hex, hd, pr, tb, R.plain, R.led, rm⟩, ⟨o, ho⟩, fun h1 h2 p k => ?_⟩
  obtain ⟨o', es', ep', t', ho', r'⟩ := p
  exact ⟨o', es', ep', t', k o' ho', r'⟩
theorem call_setM (hc : X.calm = true) (hu : X.A.units + 64 < cLine) (hy : Y.w = X.w) : CallR X (.type "set") (RNM Y setM) := by
  intro pins s σ H xs us Q I rx ⟨ι, hm, vs, Qm, hr, ra, ⟨v, ys, e, e2, hlt, ok, q⟩, tq⟩
  subst e
  obtain ⟨x, rfl, r⟩ := rep1 ra
  obtain ⟨l, ws, rfl, sq, rr⟩ := seqOf_rep X.K hr r e2
  rw [Vals.ref1 rx]
  have hn : H s.heap.objs.size = none := I.hok.fresh (Nat.le_refl _)
  have fin : ∀ (its : List Value) (ks : List (Addr × NestedKey)), ks.length = ys.length → (∀ p ∈ ks, ∃ x ∈ ys, Rep Y ι hm.length H x (.ref p.1) ∧ x.key = some p.2) → (∀ x ∈ ys, ∃ p ∈ ks, x.key = some p.2) →
      ∀ (h' : Heap) (tk : Nat) L es ep t, SetN X.w h' s.heap.objs.size L es ep t → GotN ks ks.length L → (∀ b o, s.heap.get? b = some o → h'.get? b = some o) → EP X pins σ Q (.ref s.heap.objs.size) { s with heap := h', toks := tk } := by
    intro its ks hkl h2 h3 h' tk L es ep t R g k
    obtain ⟨zs, a1, a2, a3, a4⟩ := zs_of (L := L) fun p hp => h2 p (List.mem_of_mem_take (g.sub p hp))
    have o1 : H s.heap.objs.size = none := hn
    refine ⟨.ref s.heap.objs.size, upd H s.heap.objs.size (sO X.w s.heap.objs.size (entsOf L)), I.laid (t' := tk) k (Nat.le_refl _) (sO_new R), rfl, ?_⟩
    have e1 : (entsOf L).map (fun e => some e.1) = zs.map MV.key := by
      rw [a2]
      unfold entsOf
      rw [List.map_map] <;> rfl
    have nd : ((entsOf L).map (·.1)).Nodup := by
      unfold entsOf
      rw [List.map_map]
      exact R.nd
    have zn : (zs.map MV.key).Nodup := by
      have e4 : (entsOf L).map (fun e => some e.1) = ((entsOf L).map (·.1)).map some := by rw [List.map_map] <;> rfl
      rw [← e1, e4]
      exact List.pairwise_map.mpr (nd.imp fun h e => h (Option.some.inj e))
    refine tq (.fs zs) hm ι _ _ (hr.new o1) (Ext.new o1) ?_ (q zs a4 (fun x hx => ?_) zn (by rw [a3]; have := g.len; omega))
    · refine .fs (es := entsOf L) (by rw [hy]; exact upd_same) (hr.off o1) (.refl _) ⟨e1.symm, nd, ?_⟩ ?_
      · unfold entsOf
        rw [List.length_map]
        exact R.few
      · have z := a1.mono (Ext.new o1 (o := sO X.w s.heap.objs.size (entsOf L))) hr.live
        have e3 : (entsOf L).map (·.2) = L.map fun p => V.ref p.1 := by
          unfold entsOf
          rw [List.map_map] <;> rfl
        rw [e3]
        exact z
    · obtain ⟨p, hp, hk⟩ := h3 x hx
      have hm2 := g.all p (by rw [List.take_length]; exact hp)
      rw [hk, a2]
      obtain ⟨p', hp', e⟩ := List.mem_map.mp hm2
      exact List.mem_map.mpr ⟨p', hp', by rw [e]⟩
  rcases sq with sq | sq
  · obtain ⟨its, rv, pl, hz⟩ := I.list sq
    obtain ⟨ks, e, hkl, h1, h2, h3⟩ := ks_of I rr rv ok
    exact call_setN_list (P := X.prog) (w := X.w) ks (I.ok.hd hc) pl.isList (by simpa using e) h1 (by omega) (by omega) (fin its ks hkl h2 h3)
  · obtain ⟨its, rv, ⟨o, ho, hcl, m, hd⟩, hz⟩ := I.tuple sq
    obtain ⟨ks, e, hkl, h1, h2, h3⟩ := ks_of I rr rv ok
    exact call_setN_tuple (P := X.prog) (w := X.w) ks (I.ok.hd hc) ⟨o, ho, hcl, m, hd⟩ (by simpa using e) h1 (by omega) (by omega) (fin its ks hkl h2 h3)

def setOf (h : MHp) : MV → Option (List MV)
  | .fs xs => some xs
  | .ref n => match h[n]? with
    | some (.st xs) => some xs
    | _ => none
  | _ => none
theorem setOf_rep {hm : MHp} {v : MV} {x : V} {xs : List MV} (hr : HR Y ι hm H) (r : Rep Y ι hm.length H v x) (h : setOf hm v = some xs) : ∃ a es ys, x = .ref a ∧ H a = some (sO Y.w a es) ∧ ys.Perm xs ∧ SGood ys es ∧ RepAll Y ι hm.length H ys (es.map (·.2)) := by
  cases r with
  | fs e o p g r => cases h; exact ⟨_, _, _, rfl, e, p, g, r⟩
  | @ref i hi =>
    unfold setOf at h
    cases e : hm[i]? with
    | none => simp [e] at h
    | some c =>
      simp only [e] at h
      cases c with
      | st ys =>
        cases h
        obtain ⟨zs, es, e, p, g, r⟩ := hr.cell i _ e
        exact ⟨_, es, zs, rfl, e, p, g, r⟩
      | _ => cases h
  | _ => cases h
def sortSetM (vs : List MV) (h : MHp) (Q : MQ) : Prop := ∃ v xs, vs = [v] ∧ setOf h v = some xs ∧ SortOk xs ∧ ∀ zs : List MV, zs.Perm xs → Q (.fl (zs.mergeSort sLe)) h
theorem vals_paired {es : List SEnt} {rs : List (Int × Value)} {w : World} (p : Paired (fun (p : SEnt) (e : Int × Value) => e.1 = p.1.hash w ∧ RelV p.2 e.2) es rs) : Vals (es.map (·.2)) (rs.map (·.2)) := by
  induction p with
  | nil => exact .nil
  | cons h t ih => exact .cons h.2 ih
theorem paired_len {α β : Type} {R : α → β → Prop} {as : List α} {bs : List β} (p : Paired R as bs) : as.length = bs.length := by
  induction p with
  | nil => rfl
  | cons h t ih => simp [ih]
theorem sortSet_run {a : Addr} {xs ys : List MV} {es : List SEnt} {Q : VK} (hc : X.calm = true) (hu : X.A.units + 64 < cLine) (hy : Y.w = X.w) (I : Inv X pins σ H s) (ha : H a = some (sO Y.w a es)) (pm : ys.Perm xs) (g : SGood ys es) (r : RepAll Y ι n H ys (es.map (·.2))) (so : SortOk xs)
    (q : ∀ (zs : List MV) (ws' : List V), zs.Perm xs → RepAll Y ι n H (zs.mergeSort sLe) ws' → ∀ p, H p = none → Q (.ref p) (upd H p (.lst ws'))) : wpAny (model X.prog X.w) X.A (call (.builtin "sorted") [.ref a]) (EP X pins σ Q) X.xe s := by
  have so' := so.perm pm
  obtain ⟨o, rs, ep, t, ho, hex, hd, pr, tb, pl, led, rm⟩ := (I.hok a _ ha).1
  rw [hy] at pr tb led
  have hrl : rs.size = es.length := by rw [← Array.length_toList, paired_len pr]
  have hfit : t.fits rs.size = true := by
    have h1 := tb.sz
    rw [List.length_map] at h1
    unfold SetTable.fits SetTable.fill
    rw [tb.dm, Bool.and_eq_true, beq_iff_eq, decide_eq_true_eq]
    show t.place.size = rs.size ∧ t.place.size + 0 ≤ t.mask
    omega
  have hel := g.len
  refine Calls.call_function_entry kind_sorted plain_sorted entry_sorted (args_sorted1 _) ?_
  unfold Builtin.«sorted»
  refine wpAny_bind (m := checkCount "sorted" 1 1 _) (wpAny_pure ?_)
  refine wpAny_bind (collect_set (A := X.A.in1) (I.ok.hd hc) ⟨o, ho, hex.1, hd⟩ hfit (by unfold scanBound; omega) tb.ris led fun s1 vs k1 hz g1 o1 pv => ?_)
  have hvl : vs.length = es.length := by rw [pv.length_eq, List.length_map, Array.length_toList, hrl]
  refine wpAny_bind (wpAny_newList ?_ (by rw [sizeLine_eq]; omega))
  have hoL : (s1.heap.push (seqObj "list" vs.toArray 0)).get? s1.heap.objs.size = some (seqObj "list" vs.toArray 0) := Heap.get?_push_size _ rfl
  obtain ⟨t1, t2⟩ := tri_of I r (vals_paired pr) so'.sok
  obtain ⟨bs, pb, eb⟩ := each_perm pv t1
  have hbs : (bs.map (·.1)).Perm ys := by rw [← t2]; exact pb.map _
  have hbx := hbs.trans pm
  have sob := so.perm hbx
  have henc := enc_map (rfl : bs.map (·.1) = bs.map (·.1))
  have hlen : bs.length = es.length := by rw [← eb.length, hvl]
  have keep1 : ∀ b o, s.heap.get? b = some o → (s1.heap.push (seqObj "list" vs.toArray 0)).get? b = some o := fun b o e => Heap.get?_push_of_some _ (k1 b o e)
  have notin : ∀ (u : Value) (p : MV × V), Tri Y ι n H s.heap u p → ∃ as, Reads (s1.heap.push (seqObj "list" vs.toArray 0)) u p.1.dat as ∧ s1.heap.objs.size ∉ as := fun u p ⟨_, as, rd⟩ => by
    refine ⟨as, PyProof.Rows.Reads.keeps keep1 rd, fun hm => ?_⟩
    obtain ⟨o, ho⟩ := PyProof.On.reads_mem_get rd _ hm
    exact absurd (Heap.lt_size ho) (Nat.not_lt.mpr hz)
  refine wpAny_bind (wpAny_holding (list_sort_data (s := { s1 with heap := s1.heap.push (seqObj "list" vs.toArray 0) }) (R := fun u (p : MV × V) => Rep Y ι n H p.1 p.2 ∧ RelV p.2 u) (enc := fun p : MV × V => p.1.dat) hoL (eb.mono fun _ _ z => z.1) (eb.mono notin) (by rw [henc]; exact sob.al) (by rw [henc]; exact sob.so) (by rw [hlen, sizeLine_eq]; omega)
    (fun b hb => by
      have := sob.dp b.1 (List.mem_map.mpr ⟨b, hb, rfl⟩)
      show X.A.units + 1 + 1 + b.1.dat.depth < cLine
      omega) fun out ho' eo => ?_))
  obtain ⟨ws', r1, r2⟩ := sorted_is (us := vs) rfl eo
  obtain ⟨c, hcc⟩ := sortedHeap_at (vs := vs) (out := out.toArray) hoL
  have hn : H s1.heap.objs.size = none := I.hok.fresh hz
  have keep2 : ∀ b u, s.heap.get? b = some u → (sortedHeap (s1.heap.push (seqObj "list" vs.toArray 0)) s1.heap.objs.size vs out.toArray).get? b = some u := fun b u e => by
    have q := k1 b u e
    have hlt := Heap.lt_size q
    rw [sortedHeap_old (Nat.ne_of_lt hlt) (by rw [size_push']; exact Nat.lt_succ_of_lt hlt)]
    exact Heap.get?_push_of_some _ q
  have hz2 : ws'.length ≤ sizeLine := by rw [r2.length, ho', hlen, sizeLine_eq]; omega
  have J : Inv X pins σ (upd H s1.heap.objs.size (.lst ws')) { s with heap := sortedHeap (s1.heap.push (seqObj "list" vs.toArray 0)) s1.heap.objs.size vs out.toArray, gens := s1.gens, drawn := s1.drawn, toks := s1.toks } :=
    I.call (ch := []) (Un.laid keep2 hz hn) (I.hok.laid keep2 hz ⟨hz2, out, c, r2, hcc⟩) (by rw [g1]; exact I.bare) (fun _ z => nomatch z)
  refine wpAny_pure ⟨_, rfl, .ref s1.heap.objs.size, _, ?_, rfl, q _ ws' hbx r1 _ hn⟩
  obtain ⟨h2, g2, d2, tk2, os2⟩ := s1
  cases o1
  exact J
theorem call_sortSetM (hc : X.calm = true) (hu : X.A.units + 64 < cLine) (hy : Y.w = X.w) : CallR X (.builtin "sorted") (RNM Y sortSetM) := by
  intro pins s σ H xs us Q I rx ⟨ι, hm, vs, Qm, hr, ra, ⟨v, ys, e, e2, so, q⟩, tq⟩
  subst e
  obtain ⟨x, rfl, r⟩ := rep1 ra
  obtain ⟨a, es, zs, rfl, ha, pm, g, rr⟩ := setOf_rep hr r e2
  rw [Vals.ref1 rx]
  exact sortSet_run hc hu hy I ha pm g rr so fun zs ws' p r' a ha => tq.newL hr r' (q zs p) ha
end
end Mini
namespace Mini
open PySem PySem.Spec PyProof.Rows L2

theorem fm_congr {α β : Type} {f g : α → Option β} : ∀ {l : List α}, (∀ a ∈ l, f a = g a) → l.filterMap f = l.filterMap g
  | [], _ => rfl
  | a :: l, h => by
    rw [List.filterMap_cons, List.filterMap_cons, h a List.mem_cons_self, fm_congr fun b hb => h b (List.mem_cons_of_mem _ hb)]
section
variable {prog : Program} {w : World} {A : Around} {E : Value → Shared → Prop} {s : Shared}
end
def revM (v : MV) (h : MHp) (Q : MQ) : Prop := match v with
  | .tup xs => Q (.tup xs.reverse) h
  | v => ∃ xs, lstOf h v = some xs ∧ Q (.fl xs.reverse) h
theorem tuple_mulSame (l : Addr) (items : Array Value) (n : Nat) (dd : Option Addr) (sl : Array (Option Value)) (x : Int) (u : Tok) (c0 : (decide (x < -(2 ^ 63)) || decide (x ≥ 2 ^ 63)) = false) (c1 : (items.isEmpty || x == 1) = true) :
    Meets (Builtin.«tuple.__mul__» ⟨[.ref l, .int x u], []⟩) (fun _ R s => s.heap.get? l = some { cls := .type "tuple", dict := dd, data := .seq items n, slots := sl } ∧ R (.ok (.ret (Value.ref l))) s) :=
  .of_wp fun prog w A R s h => by
    obtain ⟨hp, g, d, tk, os⟩ := s
    obtain ⟨hl, h⟩ := h
    have f1 := AutoSeq1.idx_int
    wp_walk using wpAny_loadPart' hl
    repeat (first
      | (refine wpAny_ite_false (decide_eq_false (by rw [c0]; exact Bool.false_ne_true)) ?_; wp_walk using wpAny_loadPart' hl)
      | (refine wpAny_ite_true (decide_eq_true c1) ?_; wp_walk using wpAny_loadPart' hl))
    exact ⟨_, rfl, h⟩
def rSameT (K : PySem.W.Frag) : R2 := fun x y H Q => ∃ l k xs, x = .ref l ∧ y = .int k ∧ SqT K H l xs ∧ (xs = [] ∨ k = 1) ∧ -(2 ^ 63) ≤ k ∧ k < 2 ^ 63 ∧ Q (.ref l) H
theorem op_sameT {X : Cx} : OpR X (binaryOp .Mult) (rSameT X.K) := by
  intro pins s σ H x y v u Q I rx ry h
  obtain ⟨l, k, xs, rfl, rfl, hT, hne, h1, h2, q⟩ := h
  cases rx
  obtain ⟨t, rfl⟩ := ry
  obtain ⟨its, r, ⟨⟨cls, dd, data, sl⟩, ho, hc, n, hd⟩, hs⟩ := I.tuple hT
  simp only at hc hd
  subst hc hd
  have c0 : (decide (k < -(2 ^ 63)) || decide (k ≥ 2 ^ 63)) = false := by
    rw [decide_eq_false (by omega), decide_eq_false (by omega)] <;> rfl
  have c1 : (its.toArray.isEmpty || k == 1) = true := by
    rcases hne with e | e
    · subst e
      cases r
      rfl
    · subst e
      simp
  exact wpAny_binaryOp_repeat_ref (T := "tuple") (U := "int") (by decide) ⟨_, ho, rfl⟩ (fun s' => typeIs_int s' k t) noFill_tuple_mul F.fills_int_mul F.slot_int_rmul repeat_tuple F.slot_int_index.lookup
    (call_meets F.slot_int_rmul (typeIs_int s k t) F.entry_int_rmul (F.args_int_rmul_2 _ _) (int_rmul_tuple k t l its.toArray n dd sl)
      ⟨ho, rfl, ⟨_, ho, rfl⟩, call_meets F.slot_tuple_mul ⟨_, ho, rfl⟩ F.entry_tuple_mul (F.args_tuple_mul_2 _ _) (tuple_mulSame l its.toArray n dd sl k t c0 c1) ⟨ho, .ref l, H, I, rfl, q⟩⟩)
def mulM2 (v u : MV) (h : MHp) (Q : MQ) : Prop := match u with
  | .int k => (match v with
    | .int i => CMul i k ∧ Q (.int (i * k)) h
    | .tup xs => 1 ≤ k ∧ k ≤ 1000 ∧ xs.length ≤ 1000 ∧ Q (.tup (List.replicate k.toNat xs).flatten) h
    | .fl xs => -(2 ^ 63) ≤ k ∧ k < 2 ^ 63 ∧ xs.length * k.toNat ≤ sizeLine ∧ Q (.fl (List.replicate k.toNat xs).flatten) h
    | _ => False)
  | _ => False
def mulMC (v u : MV) (h : MHp) (Q : MQ) : Prop := match u with
  | .int k => (match v with
    | .fl xs => -(2 ^ 63) ≤ k ∧ k < 2 ^ 63 ∧ xs.length * k.toNat ≤ sizeLine ∧ Q (.ref h.length) (h ++ [.lst (List.replicate k.toNat xs).flatten])
    | _ => False)
  | _ => False
section
variable {Y : Lay} {W : WX} {X : Cx}
theorem RepAll.rep {ι : Nat → Addr} {n : Nat} {H : Hp} {xs : List MV} {vs : List V} (r : RepAll Y ι n H xs vs) : ∀ k : Nat, RepAll Y ι n H (List.replicate k xs).flatten (List.replicate k vs).flatten
  | 0 => .nil
  | k + 1 => by
    rw [List.replicate_succ, List.replicate_succ, List.flatten_cons, List.flatten_cons]
    exact r.append (r.rep k)
theorem flat_nil {α : Type} : ∀ k : Nat, (List.replicate k ([] : List α)).flatten = []
  | 0 => rfl
  | k + 1 => by rw [List.replicate_succ, List.flatten_cons, flat_nil k] <;> rfl
theorem op_mulM2 : OpR X (binaryOp .Mult) (R2M Y mulM2) := by
  intro pins s σ H x y v' u' Q I rx ry ⟨ι, hm, v, u, Qm, hr, rv, ru, q, tq⟩
  cases ru with
  | int k =>
    cases rv with
    | int i => exact op_mul pins s σ H _ _ v' u' Q I rx ry ⟨i, k, rfl, rfl, q.1, tq.here hr (.int _) q.2⟩
    | @tup xs vs a e ra =>
      obtain ⟨h1, h2, hl, q⟩ := q
      by_cases hn : xs = []
      · subst hn
        rw [flat_nil] at q
        cases ra
        exact op_sameT pins s σ H _ _ v' u' Q I rx ry ⟨a, k, [], rfl, rfl, SqT.of e, .inl rfl, by omega, by omega, tq.here hr (.tup e .nil) q⟩
      · by_cases hk : k = 1
        · subst hk
          have z : (List.replicate (1 : Int).toNat xs).flatten = xs := by
            show (List.replicate 1 xs).flatten = xs
            simp
          rw [z] at q
          exact op_sameT pins s σ H _ _ v' u' Q I rx ry ⟨a, 1, vs, rfl, rfl, SqT.of e, .inr rfl, by omega, by omega, tq.here hr (.tup e ra) q⟩
        · refine op_repT pins s σ H _ _ v' u' Q I rx ry ⟨a, k, vs, rfl, rfl, SqT.of e, fun z => hn ?_, by omega, h2, by rw [← ra.length]; exact hl, fun p hp => tq.newT hr (ra.rep k.toNat) q hp⟩
          subst z
          exact List.eq_nil_of_length_eq_zero ra.length
    | @fl xs vs a e o ra =>
      obtain ⟨h1, h2, hl, q⟩ := q
      exact op_rep pins s σ H _ _ v' u' Q I rx ry ⟨a, k, vs, rfl, rfl, e, h1, h2, by rw [← ra.length]; exact hl, fun p hp => tq.newL hr (ra.rep k.toNat) q hp⟩
    | _ => exact q.elim
  | _ => exact q.elim
def mChain (r r' : MV → MV → MHp → MQ → Prop) (a b c : ME) : ME := fun s h Q E => a s h (fun x h1 => b s h1 (fun y h2 => r x y h2 (fun z h3 => ∃ k, z = .bl k ∧ (if k = true then c s h3 (fun w h4 => r' y w h4 Q) E else Q (.bl false) h3))) E) E
variable {a b c : ME} {ea eb ec : Expr} {pos : Pos} {r r' : MV → MV → MHp → MQ → Prop} {op op' : CmpOp}
theorem tM_chain {s : L2.St} {H : Hp} {Q : VK} (h : tM Y W (mChain r r' a b c) s H Q) : tChain (R2M Y r) (R2M Y r') (tM Y W a) (tM Y W b) (tM Y W c) s H Q := by
  obtain ⟨ι, sm, hm, Qm, Em, hr, rs, q, tq, tx⟩ := h
  refine ⟨ι, sm, hm, _, Em, hr, rs, q, fun v h1 ι1 H1 x hr1 e1 r1 q1 => ?_, tx⟩
  refine ⟨ι1, sm, h1, _, Em, hr1, rs.mono e1 hr.live, q1, fun u h2 ι2 H2 y hr2 e2 r2 q2 => ?_, tx.mono e1 hr.live hr1.live⟩
  have e12 := e1.trans e2 hr.live hr1.live
  refine ⟨ι2, h2, v, u, _, hr2, r1.mono e2 hr1.live, r2, q2, fun z h3 ι3 H3 zv hr3 e3 r3 q3 => ?_⟩
  have e13 := e12.trans e3 hr.live hr2.live
  obtain ⟨k, rfl, q3⟩ := q3
  cases r3
  refine ⟨k, rfl, ?_⟩
  cases k with
  | false =>
    have q4 : Qm (.bl false) h3 := by
      rw [if_neg (by decide)] at q3
      exact q3
    exact iteF ((tq.mono e13 hr.live hr3.live).here hr3 (.bl _) q4)
  | true =>
    rw [if_pos rfl] at q3
    have q4 := q3
    refine iteT ⟨ι3, sm, h3, _, Em, hr3, rs.mono e13 hr.live, q4, fun w h4 ι4 H4 wv hr4 e4 r4 q5 => ?_, tx.mono e13 hr.live hr3.live⟩
    exact ⟨ι4, h4, u, w, Qm, hr4, (r2.mono e3 hr2.live).mono e4 hr3.live, r4, q5, tq.mono (e13.trans e4 hr.live hr3.live) hr.live hr4.live⟩
theorem sn_chain (ho : OpR X (compareOp op) (R2M Y r)) (ho' : OpR X (compareOp op') (R2M Y r')) (ha : SE Y W X a ea) (hb : SE Y W X b eb) (hc : SE Y W X c ec)
    (hm : lastMarks [op, op'] [eb, ec] = false := by with_unfolding_all rfl) : SE Y W X (mChain r r' a b c) (.Compare ea [op, op'] [eb, ec] pos) :=
  peI (pe_chain ho ho' ha hb hc hm) fun s H Q h => tM_chain h
end
end Mini
namespace Mini
open PySem PySem.Spec PyProof.Rows L2

def mMt (op : MV → List MV → MHp → MQ → Prop) (o : ME) (a : MA) : ME := fun s h Q E => o s h (fun v h1 => (lstOf h1 v).isSome = true ∧ a s h1 (fun vs h2 => op v vs h2 Q) E) E
def mMt0 (op : MV → List MV → MHp → MQ → Prop) (o : ME) : ME := fun s h Q E => o s h (fun v h1 => (lstOf h1 v).isSome = true ∧ op v [] h1 Q) E
section
variable {Y : Lay} {W : WX} {X : Cx} {op : MV → List MV → MHp → MQ → Prop} {o : ME} {a : MA} {eo e : Expr} {es : List Expr} {name : Str} {id : String} {apos cpos : Pos}
theorem tyV_lst {ι : Nat → Addr} {hm : MHp} {H : Hp} {v : MV} {x : V} (hr : HR Y ι hm H) (r : Rep Y ι hm.length H v x) (h : (lstOf hm v).isSome = true) : tyV X.K "list" x H := by
  obtain ⟨xs, e⟩ := Option.isSome_iff_exists.mp h
  obtain ⟨p, vs, rfl, sq, _⟩ := lstOf_rep X.K hr r e
  exact .inl ⟨rfl, vs, sq⟩
theorem sn_mt (slot : Slot "list" name id) (hty : typeOf (.builtin id) = pure (.type "method_descriptor")) (hm : MtR X id (RmM Y op)) (ho : SE Y W X o eo) (ha : SA Y W X a (e :: es))
    (hbase : attributeBase eo name X.env (eval eo X.env) = eval eo X.env := by rfl)
    (hfew : ((backTo cpos (starEach (e :: es) X.env)).all (fun x => !x.1) && (backToKw cpos (keywordEach [] X.env)).all (fun x => x.1.isSome)
      && decide ((e :: es).length + ([] : List Keyword).length + (if ([] : List Keyword).isEmpty then 0 else 1) < 30)) = true := by rfl)
    (hline : (apos.endLine == cpos.line) = true := by rfl) (hs : starEach (e :: es) X.env = (false, eval e X.env) :: starEach es X.env := by rfl) (hplain : (backTo cpos (starEach es X.env)).any (·.1) = false := by rfl) :
    SE Y W X (mMt op o a) (.Call (.Attribute eo name apos) (e :: es) [] cpos) :=
  peI (pe_bm PySem.F.plainAttrs_list slot hty hm ho ha hbase hfew hline hs hplain) fun s H Q ⟨ι, sm, hm, Qm, Em, hr, rs, q, tq, tx⟩ => by
    refine ⟨ι, sm, hm, _, Em, hr, rs, q, fun v h1 ι1 H1 x hr1 e1 r1 q1 => ⟨tyV_lst hr1 r1 q1.1, ?_⟩, tx⟩
    refine ⟨ι1, sm, h1, _, Em, hr1, rs.mono e1 hr.live, q1.2, fun vs h2 ι2 H2 xs hr2 e2 r2 q2 => ?_, tx.mono e1 hr.live hr1.live⟩
    exact ⟨ι2, h2, v, vs, Qm, hr2, r1.mono e2 hr1.live, r2, q2, tq.mono (e1.trans e2 hr.live hr1.live) hr.live hr2.live⟩
theorem sn_mt0 (slot : Slot "list" name id) (hty : typeOf (.builtin id) = pure (.type "method_descriptor")) (hm : MtR X id (RmM Y op)) (ho : SE Y W X o eo)
    (hbase : attributeBase eo name X.env (eval eo X.env) = eval eo X.env := by rfl) (hline : (apos.endLine == cpos.line) = true := by rfl) : SE Y W X (mMt0 op o) (.Call (.Attribute eo name apos) [] [] cpos) :=
  peI (pe_bm0 PySem.F.plainAttrs_list slot hty hm ho hbase hline) fun s H Q ⟨ι, sm, hm, Qm, Em, hr, rs, q, tq, tx⟩ => by
    refine ⟨ι, sm, hm, _, Em, hr, rs, q, fun v h1 ι1 H1 x hr1 e1 r1 q1 => ⟨tyV_lst hr1 r1 q1.1, ?_⟩, tx⟩
    exact ⟨ι1, h1, v, [], Qm, hr1, r1, .nil, q1.2, tq.mono e1 hr.live hr1.live⟩
theorem mtI {X : Cx} {r r' : V → List V → Hp → VK → Prop} (h : MtR X id r) (i : ∀ x xs H Q, r' x xs H Q → r x xs H Q) : MtR X id r' := fun pins s σ H x xs v us Q I rx rs q => h pins s σ H x xs v us Q I rx rs (i _ _ _ _ q)

def appendM (v : MV) (vs : List MV) (h : MHp) (Q : MQ) : Prop := ∃ n xs y, cellOf h v = some (n, xs) ∧ vs = [y] ∧ xs.length < sizeLine ∧ Q .non (h.set n (.lst (xs ++ [y])))
theorem mt_appendM : MtR X "list.append" (RmM Y appendM) := mtI mt_append fun x xs H Q ⟨ι, hm, v, vs, Qm, hr, r, ra, ⟨n, ys, y, hc, e, hl, q⟩, tq⟩ => by
  subst e
  obtain ⟨rfl, hn, rfl, ws, hv, rw'⟩ := cellOf_rep hr r hc
  obtain ⟨yv, rfl, ry⟩ := rep1 ra
  exact ⟨_, ws, yv, rfl, rfl, hv, by rw [← rw'.length]; exact hl, tq.setL hr hn .non (rw'.append (.cons ry .nil)) q⟩
def extendM (v : MV) (vs : List MV) (h : MHp) (Q : MQ) : Prop := ∃ n xs y ys, cellOf h v = some (n, xs) ∧ vs = [y] ∧ ((∃ zs, y = .fl zs ∧ ys = zs) ∨ ∃ m, cellOf h y = some (m, ys)) ∧ xs.length + ys.length ≤ sizeLine ∧ Q .non (h.set n (.lst (xs ++ ys)))
theorem mt_extendM : MtR X "list.extend" (RmM Y extendM) := mtI mt_extend fun x xs H Q ⟨ι, hm, v, vs, Qm, hr, r, ra, ⟨n, ys, y, zs, hc, e, hy, hl, q⟩, tq⟩ => by
  subst e
  obtain ⟨rfl, hn, rfl, ws, hv, rw'⟩ := cellOf_rep hr r hc
  obtain ⟨yv, rfl, ry⟩ := rep1 ra
  have hy2 : ∃ b us, yv = .ref b ∧ H b = some (.lst us) ∧ RepAll Y ι hm.length H zs us := by
    rcases hy with ⟨_, rfl, rfl⟩ | ⟨m, hm2⟩
    · cases ry with
      | fl e o r => exact ⟨_, _, rfl, e, r⟩
    · obtain ⟨rfl, _, rfl, us, hu, ru⟩ := cellOf_rep hr ry hm2
      exact ⟨_, us, rfl, hu, ru⟩
  obtain ⟨b, us, rfl, hb, ru⟩ := hy2
  exact ⟨_, b, ws, us, rfl, rfl, hv, hb, by rw [← rw'.length, ← ru.length]; exact hl, tq.setL hr hn .non (rw'.append ru) q⟩
theorem RepAll.dropLast {ι : Nat → Addr} {n : Nat} {H : Hp} {xs : List MV} {vs : List V} (r : RepAll Y ι n H xs vs) : RepAll Y ι n H xs.dropLast vs.dropLast := by
  rw [List.dropLast_eq_take, List.dropLast_eq_take, r.length]
  exact r.take _
theorem RepAll.erase {ι : Nat → Addr} {n : Nat} {H : Hp} : ∀ {xs : List MV} {vs : List V} (i : Nat), RepAll Y ι n H xs vs → RepAll Y ι n H (xs.eraseIdx i) (vs.eraseIdx i)
  | _, _, _, .nil => .nil
  | _, _, 0, .cons _ t => t
  | _, _, i + 1, .cons h t => .cons h (RepAll.erase i t)
def popM (v : MV) (vs : List MV) (h : MHp) (Q : MQ) : Prop := ∃ n xs y, cellOf h v = some (n, xs) ∧ vs = [] ∧ xs[xs.length - 1]? = some y ∧ Q y (h.set n (.lst xs.dropLast))
theorem mt_popM : MtR X "list.pop" (RmM Y popM) := mtI mt_pop fun x xs H Q ⟨ι, hm, v, vs, Qm, hr, r, ra, ⟨n, ys, y, hc, e, hy, q⟩, tq⟩ => by
  subst e
  cases ra
  obtain ⟨rfl, hn, rfl, ws, hv, rw'⟩ := cellOf_rep hr r hc
  obtain ⟨yv, hyv, ry⟩ := rw'.get hy
  exact ⟨_, ws, yv, rfl, rfl, hv, by rw [← rw'.length]; exact hyv, tq.setL hr hn ry rw'.dropLast q⟩
def insertM (v : MV) (vs : List MV) (h : MHp) (Q : MQ) : Prop := ∃ n xs i y, cellOf h v = some (n, xs) ∧ vs = [.int i, y] ∧ xs.length < sizeLine ∧ 0 ≤ i ∧ i < 2 ^ 63 ∧ Q .non (h.set n (.lst (xs.take i.toNat ++ [y] ++ xs.drop i.toNat)))
def tyM (h : MHp) : MV → Option String
  | .non => some "NoneType"
  | .bl _ => some "bool"
  | .int _ => some "int"
  | .str _ => some "str"
  | .tup _ => some "tuple"
  | .fl _ => some "list"
  | .sc _ => some "list"
  | .ref n => match h[n]? with
    | some (.lst _) => some "list"
    | _ => none
  | _ => none
theorem tyM_rep {K : PySem.W.Frag} {ι : Nat → Addr} {hm : MHp} {H : Hp} {v : MV} {x : V} {T : String} (hr : HR Y ι hm H) (r : Rep Y ι hm.length H v x) (h : tyM hm v = some T) : TyX K H x (.type T) := by
  cases r with
  | non => cases h; exact .base .non
  | bl b => cases h; exact .base (.bl b)
  | int i => cases h; exact .base (.int i)
  | str x => cases h; exact .base (.str x)
  | tup e r => cases h; exact .base (.tup e)
  | fl e o r => cases h; exact .base (.lst e)
  | sc e o r =>
    cases h
    rcases e with e | ⟨ob, e⟩
    · exact .base (.lst e)
    · exact .base (.frz e)
  | @ref i hi =>
    unfold tyM at h
    cases e : hm[i]? with
    | none => simp [e] at h
    | some c =>
      simp only [e] at h
      cases c with
      | lst ys =>
        cases h
        obtain ⟨vs, hv, r⟩ := hr.cell i _ e
        exact .base (.lst hv)
      | _ => cases h
  | _ => cases h
def isiM (T : String) (vs : List MV) (h : MHp) (Q : MQ) : Prop := ∃ v t b, vs = [v] ∧ tyM h v = some t ∧ kitB t T = some b ∧ Q (.bl b) h
def mIsi (T : String) (a : ME) : ME := mOp1 (fun v h Q => isiM T [v] h Q) a
theorem sn_isi {T : String} {x : Str} {tn : Str} {p p2 pos : Pos} {ea : Expr} {a : ME} (hg : Gl X x) (hmx : X.mg x = none) (hg2 : Gl X tn) (hm2 : X.mg tn = none) (ha : SE Y W X a ea) (hv2 : bootBuiltins tn = some (.type T) := by rfl) (hv : bootBuiltins x = some (.builtin "isinstance") := by rfl)
    (hn2 : tn ≠ "__name__" := by decide) (hdb2 : (tn == ("__debug__" : Str)) = false := by decide) (hn : x ≠ "__name__" := by decide) (hdb : (x == ("__debug__" : Str)) = false := by decide)
    (he : starEach [ea, .Name tn p2] X.env = (false, eval ea X.env) :: starEach [.Name tn p2] X.env := by rfl) (hs2 : starEach [.Name tn p2] X.env = (false, eval (.Name tn p2) X.env) :: starEach [] X.env := by rfl) (hpl : (backTo pos (starEach [.Name tn p2] X.env)).any (·.1) = false := by rfl) :
    SE Y W X (mIsi T a) (.Call (.Name x p) [ea, .Name tn p2] [] pos) :=
  peI (pe_callB call_isi hg hmx hv (pa_cons ha (pa_cons (pe_bltn (v := .ty T) hg2 hm2 hv2 rfl hn2 hdb2) pa_nil hs2) he) hn hdb he hpl) fun s H Q ⟨ι, sm, hm, Qm, Em, hr, rs, q, tq, tx⟩ => by
    refine ⟨ι, sm, hm, _, Em, hr, rs, q, fun v h1 ι1 H1 xv hr1 e1 r1 q1 => ?_, tx⟩
    obtain ⟨w, t, b, e, ht, hk, q1⟩ := q1
    cases e
    exact ⟨xv, .ty T, .type t, .type T, b, rfl, .ty T, tyM_rep hr1 r1 ht, kit_ty hk, (tq.mono e1 hr.live hr1.live).here hr1 (.bl _) q1⟩

structure ROk (d : PyData) : Prop where
  sh : d.showable = true
  nd : d.hasDict = false
  dp : d.depth ≤ 50
  len : d.shown.length ≤ sizeLine
def reprM2 (vs : List MV) (h : MHp) (Q : MQ) : Prop := ∃ v, vs = [v] ∧ (der h v).sok = true ∧ ROk (der h v).dat ∧ Q (.str (der h v).dat.shown) h
theorem call_reprM (hg : X.A.guards = some []) (hu : X.A.units + 64 < cLine) : CallR X (.builtin "repr") (RNM Y reprM2) := by
  intro pins s σ H xs us Q I rx ⟨ι, hm, vs, Qm, hr, ra, ⟨v, e, hs, ok, q⟩, tq⟩
  subst e
  obtain ⟨x, rfl, r⟩ := rep1 ra
  obtain ⟨u, rfl, ru⟩ := rx.one
  obtain ⟨as, rd⟩ := Dp.reads I _ _ _ (der_dp X.K hr r hs) ru
  have fin : ∀ (h' : Heap) (t tk : Nat), (∀ b o, s.heap.get? b = some o → h'.get? b = some o) → EP X pins σ Q (.str (der hm v).dat.shown t) { s with heap := h', toks := tk } := fun h' t tk k =>
    ⟨.str _, H, I.kept (t' := tk) k, ⟨t, rfl⟩, tq.here hr (.str _) q⟩
  generalize (der hm v).dat = d at rd ok fin
  have len := ok.len
  cases rd with
  | none => exact PySem.P.repr_of_none (fin s.heap _ _ fun _ _ e => e)
  | bool b =>
    refine PySem.P.repr_of_bool ?_
    exact fin s.heap _ _ fun _ _ e => e
  | int i t => exact PySem.P.repr_of_int (by simpa [PyData.showable] using ok.sh) (fin s.heap _ _ fun _ _ e => e)
  | str y t => exact PySem.P.repr_of_str (fin s.heap _ _ fun _ _ e => e) ok.len
  | list h1 h2 h3 h4 => exact repr_of_reads' (.list h1 h2 h3 h4) ok.sh (PyData.noDict_hsm ok.nd) hg (by have := ok.dp; omega) (fun _ _ e => e) (fun h' u tk k => fin h' _ _ k) ok.len
  | tuple h1 h2 h3 h4 => exact repr_of_reads' (.tuple h1 h2 h3 h4) ok.sh (PyData.noDict_hsm ok.nd) hg (by have := ok.dp; omega) (fun _ _ e => e) (fun h' u tk k => fin h' _ _ k) ok.len
  | dict h1 h2 h3 h4 h5 => exact absurd ok.nd (by simp [PyData.hasDict])
end
end Mini
namespace Mini
open PySem PySem.Spec PyProof.Rows L2

def noL (K : PySem.W.Frag) : PySem.W.Frag := K.filter fun p => !(p.2.cls == .type "list")
theorem lookup_mem {α β : Type} [BEq α] [LawfulBEq α] {a : α} {b : β} : ∀ {l : List (α × β)}, l.lookup a = some b → (a, b) ∈ l
  | [], h => nomatch h
  | (c, d) :: l, h => by
    by_cases e : a = c
    · subst e
      rw [List.lookup_cons, beq_self_eq_true] at h
      cases h
      exact List.mem_cons_self
    · rw [List.lookup_cons, beq_false_of_ne e] at h
      exact List.mem_cons_of_mem _ (lookup_mem h)
theorem frG_mem' {g : Addr → Option Obj} {as : List Addr} {a : Addr} {o : Obj} (h : (a, o) ∈ He.frG g as) : g a = some o := by
  unfold He.frG at h
  obtain ⟨b, _, e⟩ := List.mem_filterMap.mp h
  cases e2 : g b with
  | none => rw [e2] at e; cases e
  | some u => rw [e2] at e; cases e; exact e2
def obM (n : Nat) (fa : List He.Fa) (fn : List He.DefD) (g : Addr → Option Obj) : He.AlD := He.obsD fa fn (noL (He.frG g (He.asD g n)))
def hookM (n : Nat) (fa : List He.Fa) (fn : List He.DefD) : PySem.W.Hook where
  α := He.AlD
  obs := fun s => obM n fa fn s.heap.get?
  val := fun _ => He.valD fn
  says := fun _ h => ∃ K : PySem.W.Frag, K.In h ∧ He.SaysD fa fn K ∧ ∀ a o, K.lookup a = some o → (o.cls == .type "list") = false
  of := fun _ _ e => ⟨_, fun a o h => frG_mem' (List.mem_filter.mp (lookup_mem h)).1, e, fun a o h => by simpa using (List.mem_filter.mp (lookup_mem h)).2⟩
  keeps := fun _ _ _ ⟨K, hK, c⟩ k => ⟨K, PySem.W.Frag.In.keeps hK k, c⟩
theorem obM_eq {n : Nat} {fa : List He.Fa} {fn : List He.DefD} {g : Addr → Option Obj} {s : Shared} (h : ∀ a, g a = s.heap.get? a) : obM n fa fn g = (hookM n fa fn).obs s := by
  have e : g = s.heap.get? := funext h
  rw [e] <;> rfl

theorem cx_never {P : Program} {w : World} {outer : List Env} {H : Hp} {s : Shared} {u : Value} {s' : Shared} (h : CX P w outer H s (fun _ _ _ => False) u s') : False := by
  obtain ⟨_, _, _, _, _, _, _, _, _, _, _, _, h⟩ := h
  exact h
theorem sc_rep {Y : Lay} {ι : Nat → Addr} {H : Hp} : ∀ ns : List Int, RepAll Y ι 0 H (ns.map MV.int) (ns.map V.int)
  | [] => .nil
  | n :: ns => .cons (.int n) (sc_rep ns)
theorem law_callM {P : Program} {w : World} {K : PySem.W.Frag} {mg mb : Str → Option Value} {k : Nat} {fa a : Addr} {fd : FuncData} {x : Str} {Y : Lay} {sem : Sem} {s₁ : Shared} {vs : List Value} {ns : List Int}
    (KX : K.In s₁.heap) (hns : s₁.heap.Ns mainGlobals mg) (hb : s₁.heap.Ns builtinsNs mb) (hbb : ∀ x : Str, x ≠ "__name__" → mb x = bootBuiltins x) (hlim : s₁.heap.NoLimit) (hg : s₁.gens = #[])
    (ha : s₁.heap.get? a = some { cls := .type "list", data := .seq vs.toArray }) (hi : IntsAre vs ns) (hl : ns.length ≤ sizeLine) (hr : RoomG k callerA) (hk : K.lookup a = none)
    (F : ∀ base : Heap, K.In base → base.Ns mainGlobals mg → FnG Y P w K mg base k fa fd [x] sem) (hbind : ∀ (s : Shared) (u : Value), BindsTo s fd ⟨[u], []⟩ [(x, u)])
    (hsem : sem [.sc (ns.map .int)] [] (fun v _ => v = .bl true) (fun _ _ => False)) :
    codeAny (model P w) callerA (.call (.ref fa) ⟨[.ref a], []⟩) (fun r s' => r = .ok (.ret (.bool true)) ∧ OldK s₁.heap s'.heap ∧ s'.os = s₁.os ∧ AllBare s'.gens) s₁ := by
  have rv := vals_ints hi
  have lenV := hi.length
  obtain ⟨H, hHa, hHn⟩ : ∃ H : Hp, H a = some (.frz { cls := .type "list", data := .seq vs.toArray } (.lst (ns.map V.int))) ∧ ∀ b, b ≠ a → H b = none :=
    ⟨fun b => if b = a then some (.frz { cls := .type "list", data := .seq vs.toArray } (.lst (ns.map V.int))) else none, if_pos rfl, fun b hb => if_neg hb⟩
  have hok : HOk P w H s₁.heap := fun b u z => by
    by_cases hb : b = a
    · subst hb
      rw [hHa] at z
      cases z
      exact ⟨ha, by rw [List.length_map]; exact hl, vs, _, rv, ha⟩
    · rw [hHn b hb] at z
      cases z
  have hA : ∀ b, H b ≠ none → b = a := fun b z => by
    by_cases hb : b = a
    · exact hb
    · exact absurd (hHn b hb) z
  have base_of : ∀ {b : Addr} {o : Obj}, s₁.heap.get? b = some o → H b = none → (hidT s₁.heap H).get? b = some o := fun e n => hidT_get e n
  have noA : ∀ {b : Addr} {o : Obj} {es : Array DictEntry} {ep : Nat}, s₁.heap.get? b = some o → o.data = .dict es ep → H b = none := fun {b o es ep} e d => by
    cases q : H b with
    | none => rfl
    | some u =>
      have e' : b = a := hA b (by rw [q]; simp)
      subst e'
      rw [ha] at e; cases e
      have d' : Data.seq vs.toArray _ = Data.dict es ep := d
      cases d'
  have nsK : ∀ {b : Addr} {m : Str → Option Value}, s₁.heap.Ns b m → (hidT s₁.heap H).Ns b m := fun {b m} ⟨o, es, ep, e, d, r⟩ => ⟨o, es, ep, base_of e (noA e d), d, r⟩
  have hKb : K.In (hidT s₁.heap H) := fun b o e => base_of (KX b o e) (by
    cases q : H b with
    | none => rfl
    | some u =>
      have e' : b = a := hA b (by rw [q]; simp)
      subst e'
      rw [hk] at e; cases e)
  have hM : Mod K mg (hidT s₁.heap H) := ⟨hKb, nsK hns, ⟨mb, nsK hb, hbb⟩, let ⟨mc, h1, h2⟩ := hlim; ⟨mc, nsK h1, h2⟩⟩
  have e0 : Env0 P w K mg (hidT s₁.heap H) callerA [] s₁ H := ⟨rfl, hM, fun b o e => of_hidT e, Nat.le_of_eq (hidT_size _ _), trivial, fun b hb => absurd (show b ∈ ([] : List Addr) from hb) (by simp), hok, .of_eq hg⟩
  have hR : HR (Y.re fun _ => False) (fun _ => 0) [] H := ⟨fun i j hi => absurd hi (by simp), fun i c e => by simp at e, fun _ z => z.elim⟩
  refine codeAny_mono ((F _ hKb (nsK hns)).run (fun _ => False) callerA [] s₁ H ⟨[.ref a], []⟩ [.ref a] [.ref a] (fun v _ => v = .bl true) (fun _ _ _ => False) (fun _ => 0) [] [.sc (ns.map .int)] _ _ hr e0 (hbind s₁ (.ref a)) (.cons rfl .nil) hR
    (.cons (.sc (.inr ⟨_, hHa⟩) ⟨fun z => z, fun i hi => absurd hi (by simp)⟩ (sc_rep ns)) .nil) hsem (fun v h' ι' H' x hr' e' r q => ?_) (fun _ _ _ _ _ _ _ _ _ z => z.elim)) fun r s' h => ?_
  · subst q
    cases r
    rfl
  · cases r with
    | error e => exact (cx_never h).elim
    | ok fl =>
      cases fl with
      | next => exact False.elim h
      | brk => exact False.elim h
      | cont => exact False.elim h
      | ret u =>
        obtain ⟨v, H', os, bare, un, hok', r', q⟩ := h
        have q' : v = .bl true := q
        subst q'
        obtain rfl : u = Value.bool true := r'
        refine ⟨rfl, OldK.of_keep fun b o e => ?_, os, bare⟩
        cases q : H b with
        | none => exact un.keep b o e q (by intro z; exact absurd (show b ∈ ([] : List Addr) from z) (by simp)) (by simp)
        | some u =>
          have e' : b = a := hA b (by rw [q]; simp)
          subst e'
          have z2 := un.frzs b _ _ hHa
          obtain ⟨e1, _⟩ := hok b _ hHa
          obtain ⟨e2, _⟩ := hok' b _ z2
          rw [e] at e1; cases e1
          exact e2
theorem walk_ofM {l : PySem.W.OpenLaw} {n k m : Nat} {q : Program} {loose : List Str} {XP : (Str → Option Value) → Heap → Prop} {d : DefRec} {x : Str} {fas : List He.Fa} {fn : List He.DefD}
    (hn : l.most = some n) (hn2 : n ≤ sizeLine) (hdf : d.params.defaults = []) (hr : RoomG k callerA)
    (F : ∀ (w : World) (mg : Str → Option Value) (fa : Addr) (h : Heap) (K : PySem.W.Frag), K.In h → He.SaysD fas fn K → h.Ns mainGlobals mg → mg d.name = some (.ref fa) →
      ∃ (fd : FuncData) (Y : Lay) (sem : Sem), (∀ (s : Shared) (u : Value), BindsTo s fd ⟨[u], []⟩ [(x, u)]) ∧
        (∀ ns : List Int, ns.length ≤ n → sem [.sc (ns.map .int)] [] (fun v _ => v = .bl true) (fun _ _ => False)) ∧
        ∀ base : Heap, K.In base → base.Ns mainGlobals mg → FnG Y l.prog w K mg base k fa fd [x] sem) :
    PySem.W.WalkO q loose XP (fun w h => (hookM m fas fn).says w h) l.row.toRowW d [] (fun f vs => PySem.call f vs) := by
  refine Att.attach_call hn hdf fun w s₀ s₁ mg mb fa o pm cd doc a vs ns G Y ho hd hcd hmg hobj hints hlen hg => ?_
  obtain ⟨K, KX, c, nl⟩ := Y
  obtain ⟨fd, Y, sem, hb, hsem, hF⟩ := F w mg fa _ K KX c G.T.g hmg
  have hk : K.lookup a = none := by
    cases e : K.lookup a with
    | none => rfl
    | some o =>
      have e2 := KX a o e
      rw [hobj] at e2
      cases e2
      exact absurd (nl a _ e) (by simp)
  exact law_callM KX G.T.g G.T.b G.T.builtins G.T.nolimit hg hobj hints (Nat.le_trans hlen hn2) hr hk hF hb (hsem ns hlen)
end Mini
namespace Mini
open PySem PySem.Spec PyProof.Rows L2
section
variable {Y : Lay} {W : WX} {X : Cx} {mi : MI} {g : MG} {t : MT} {m : ME} {elt tg iter : Expr} {ifs : List Expr} {scope : Scope} {own : List (Str × Nat)} {pos : Pos}
theorem takes_no : Takes X NoW := fun u s' ⟨_, _, _, _, _, _, _, _, _, _, _, _, _, _, _, _, z⟩ => z.elim
theorem sn_lc (hc : X.calm = true) (hN : X.N.Nodup) (hi : SI Y W X mi tg iter) (ok : blkC X.N X.env.scope scope own = true)
    (hg : ∀ (D : Addr) (s : Shared) (H : Hp) (C : Addr) (cl : List (Str × Addr)) (fp : List Addr), SGo (Y.hide D) (X.blk s H scope (compEnvC scope cl C X.env) fp) (own.map (·.2)) g tg)
    (ht : ∀ (D : Addr) (s : Shared) (H : Hp) (C : Addr) (cl : List (Str × Addr)) (fp : List Addr), STs (Y.hide D) NoW (X.blk s H scope (compEnvC scope cl C X.env) fp) t ifs)
    (he : ∀ (D : Addr) (s : Shared) (H : Hp) (C : Addr) (cl : List (Str × Addr)) (fp : List Addr), SE (Y.hide D) NoW (X.blk s H scope (compEnvC scope cl C X.env) fp) m elt) (hs : ∀ x, foldedSetIterable iter X.env x = pure x := by intro _; rfl) :
    SE Y W X (mLc mi g t m (own.map (·.2))) (.ListComp elt [⟨tg, iter, ifs, 0⟩] scope pos) :=
  peI (pe_lc hc hN hi (blkOk_by ok) (fun s H C cl fp => pgU fun D => hg D s H C cl fp) (fun s H C cl fp => ptsU fun D => ht D s H C cl fp) (fun s H C cl fp => peU fun D => he D s H C cl fp) hs) fun s H Q h =>
    lc_read (K := fun (ys : List MV) (h2 : MHp) (Q : MQ) => Q (MV.fl ys) h2) h fun ι hm H ys zs Qm D H0 a1 a2 a3 a4 a5 n ι0 b1 b2 b3 b4 => kF a1 a2 a3 a4 a5 n ι0 b1 b2 b3 b4
theorem ss_lc {i : Nat} {y : Str} {py spos : Pos} (hc : X.calm = true) (hN : X.N.Nodup) (hyl : X.env.scope.names.lookup y = some .local) (hsw : swapsWith (.ListComp elt [⟨tg, iter, ifs, 0⟩] scope pos) (some (.Name y py)) spos.line X.env = pure true)
    (hi : SI Y W X mi tg iter) (ok : blkC X.N X.env.scope scope own = true)
    (hg : ∀ (D : Addr) (s : Shared) (H : Hp) (C : Addr) (cl : List (Str × Addr)) (fp : List Addr), SGo (Y.hide D) (X.blk s H scope (compEnvC scope cl C X.env) fp) (own.map (·.2)) g tg)
    (ht : ∀ (D : Addr) (s : Shared) (H : Hp) (C : Addr) (cl : List (Str × Addr)) (fp : List Addr), STs (Y.hide D) NoW (X.blk s H scope (compEnvC scope cl C X.env) fp) t ifs)
    (he : ∀ (D : Addr) (s : Shared) (H : Hp) (C : Addr) (cl : List (Str × Addr)) (fp : List Addr), SE (Y.hide D) NoW (X.blk s H scope (compEnvC scope cl C X.env) fp) m elt) (hy : X.N[i]? = some y := by rfl) (hs : ∀ x, foldedSetIterable iter X.env x = pure x := by intro _; rfl) :
    SS Y W X (mAsg (mLc mi g t m (own.map (·.2))) (gN i)) (.Assign [.Name y py] (.ListComp elt [⟨tg, iter, ifs, 0⟩] scope pos) spos) :=
  psI (ps_setLc hc hN hy hyl hsw hi (blkOk_by ok) (fun s H C cl fp => pgU fun D => hg D s H C cl fp) (fun s H C cl fp => ptsU fun D => ht D s H C cl fp) (fun s H C cl fp => peU fun D => he D s H C cl fp) hs) fun D0 s H h => by
    obtain ⟨ι, sm, hm, Dm, hr, rs, q, td⟩ := h
    have hh : tM Y W (mLc mi g t m (own.map (·.2))) s H (fun x H1 => gName i x s H1 D0.nx) :=
      ⟨ι, sm, hm, _, _, hr, rs, q, fun v h1 ι1 H1 x hr1 e1 r1 q1 => td.nx _ _ _ _ _ hr1 e1 ((rs.mono e1 hr.live).set i r1) q1, td.ex.ex hr.live rs⟩
    exact lc_read (K := fun (ys : List MV) (h2 : MHp) (Q : MQ) => Q (MV.fl ys) h2) hh fun ι hm H ys zs Qm D H0 a1 a2 a3 a4 a5 n ι0 b1 b2 b3 b4 => kF a1 a2 a3 a4 a5 n ι0 b1 b2 b3 b4
end
end Mini
namespace Mini
open PySem PySem.Spec PyProof.Rows L2
def plusM (v u : MV) (h : MHp) (Q : MQ) : Prop := match v with
  | .int i => addM (.int i) u h Q
  | .str x => addM (.str x) u h Q
  | .tup xs => addM (.tup xs) u h Q
  | v => catF v u h Q
section
variable {Y : Lay} {W : WX} {X : Cx}
theorem op_plusM : OpR X (binaryOp .Add) (R2M Y plusM) := by
  intro pins s σ H x y v' u' Q I rx ry ⟨ι, hm, v, u, Qm, hr, rv, ru, q, tq⟩
  cases v with
  | int i => exact op_addM pins s σ H x y v' u' Q I rx ry ⟨ι, hm, _, u, Qm, hr, rv, ru, q, tq⟩
  | str i => exact op_addM pins s σ H x y v' u' Q I rx ry ⟨ι, hm, _, u, Qm, hr, rv, ru, q, tq⟩
  | tup i => exact op_addM pins s σ H x y v' u' Q I rx ry ⟨ι, hm, _, u, Qm, hr, rv, ru, q, tq⟩
  | _ => exact op_catFM pins s σ H x y v' u' Q I rx ry ⟨ι, hm, _, u, Qm, hr, rv, ru, q, tq⟩
theorem st_chain {a b c : ME} {ea eb ec : Expr} {pos : Pos} {r r' : MV → MV → MHp → MQ → Prop} {op op' : CmpOp} (ho : OpR X (compareOp op) (R2M Y r)) (ho' : OpR X (compareOp op') (R2M Y r')) (ha : SE Y W X a ea) (hb : SE Y W X b eb) (hc : SE Y W X c ec)
    (hm : lastMarks [op, op'] [eb, ec] = false := by with_unfolding_all rfl) : ST Y W X (tV (mChain r r' a b c)) (.Compare ea [op, op'] [eb, ec] pos) :=
  ptI (pt_chain ho ho' ha hb hc hm) fun s H Q h => tM_chain (tMT_val h)
end
def mPar (i j : Nat) (a : MA) : MS := fun s h D => a s h (fun vs h1 => ∃ v w, vs = [v, w] ∧ D.nx ((s.set i (some v)).set j (some w)) h1) (fun e h' => D.ex e s h')
def mPar3 (i j l : Nat) (a : MA) : MS := fun s h D => a s h (fun vs h1 => ∃ u v w, vs = [u, v, w] ∧ D.nx (((s.set i (some u)).set j (some v)).set l (some w)) h1) (fun e h' => D.ex e s h')
section
variable {Y : Lay} {W : WX} {X : Cx}
theorem ss_par {i j : Nat} {x y : Str} {a b : Expr} {ta : MA} {px py pt pos : Pos} {kt k2 pt2} (hN : X.N.Nodup) (ha : SA Y W X ta [a, b]) (hc : X.calm = true := by rfl) (hi : X.N[i]? = some x := by rfl) (hj : X.N[j]? = some y := by rfl) (hij : i ≠ j := by decide)
    (hx : X.env.scope.names.lookup x = some .local := by rfl) (hy : X.env.scope.names.lookup y = some .local := by rfl)
    (hw : swappedStores [.Tuple [.Name x px, .Name y py] kt pt] (.Tuple [a, b] k2 pt2) X.env = pure (some [x, y]) := by rfl)
    (hs : swapsWithSole [.Tuple [.Name x px, .Name y py] kt pt] (.Tuple [a, b] k2 pt2) pos.line X.env = pure false := by rfl) :
    SS Y W X (mPar i j ta) (.Assign [.Tuple [.Name x px, .Name y py] kt pt] (.Tuple [a, b] k2 pt2) pos) :=
  psI (ps_par hc hN hi hj hij hx hy ha hw hs) fun D s H ⟨ι, sm, hm, Dm, hr, rs, q, td⟩ => by
    refine ⟨ι, sm, hm, _, _, hr, rs, q, fun vs h1 ι1 H1 xs hr1 e1 r1 q1 => ?_, td.ex.ex hr.live rs⟩
    obtain ⟨v, w, rfl, q1⟩ := q1
    obtain ⟨xv, yv, rfl, ra, rb⟩ := rep2 r1
    exact ⟨xv, yv, rfl, td.nx _ _ _ _ _ hr1 e1 (((rs.mono e1 hr.live).set i ra).set j rb) q1⟩
theorem ss_par3 {i j l : Nat} {x y z : Str} {a b c : Expr} {ta : MA} {px py pz pt pos : Pos} {kt k2 pt2} (hN : X.N.Nodup) (ha : SA Y W X ta [a, b, c]) (hc : X.calm = true := by rfl) (hi : X.N[i]? = some x := by rfl) (hj : X.N[j]? = some y := by rfl) (hl : X.N[l]? = some z := by rfl) (hij : i ≠ j := by decide) (hil : i ≠ l := by decide) (hjl : j ≠ l := by decide)
    (hx : X.env.scope.names.lookup x = some .local := by rfl) (hy : X.env.scope.names.lookup y = some .local := by rfl) (hz : X.env.scope.names.lookup z = some .local := by rfl)
    (hw : swappedStores [.Tuple [.Name x px, .Name y py, .Name z pz] kt pt] (.Tuple [a, b, c] k2 pt2) X.env = pure (some [x, y, z]) := by rfl)
    (hs : swapsWithSole [.Tuple [.Name x px, .Name y py, .Name z pz] kt pt] (.Tuple [a, b, c] k2 pt2) pos.line X.env = pure false := by rfl) :
    SS Y W X (mPar3 i j l ta) (.Assign [.Tuple [.Name x px, .Name y py, .Name z pz] kt pt] (.Tuple [a, b, c] k2 pt2) pos) :=
  psI (ps_par3 hc hN hi hj hl hij hil hjl hx hy hz ha hw hs) fun D s H ⟨ι, sm, hm, Dm, hr, rs, q, td⟩ => by
    refine ⟨ι, sm, hm, _, _, hr, rs, q, fun vs h1 ι1 H1 xs hr1 e1 r1 q1 => ?_, td.ex.ex hr.live rs⟩
    obtain ⟨u, v, w, rfl, q1⟩ := q1
    cases r1 with
    | cons ra r2 =>
      obtain ⟨yv, zv, rfl, rb, rc⟩ := rep2 r2
      exact ⟨_, yv, zv, rfl, td.nx _ _ _ _ _ hr1 e1 ((((rs.mono e1 hr.live).set i ra).set j rb).set l rc) q1⟩
end
theorem RoomG.un {k : Nat} {A : Around} (r : RoomG k A) : A.units + 64 < cLine := r.rm.units
theorem RoomG.un65 {k : Nat} {A : Around} (r : RoomG k A) : A.units + 65 < cLine := by have := r.rm.un; omega
abbrev FnP (K : PySem.W.Frag) (x : Str) (st : Stmt) (f : Addr) (fd : FuncData) : Prop := FunD K x x (defArgs st) (defBody st) (defScope st) [] [] f fd
theorem funOk {Y : Lay} {P : Program} {w : World} {K : PySem.W.Frag} {mg : Str → Option Value} {base : Heap} {x qual : Str} {params : Arguments} {body : List Stmt} {scope : Scope} {f : Addr} {fd : FuncData} {N ps : List Str} {np ns k : Nat} {m : MS} {md mx : Md}
    (F : FunD K x qual params body scope [] [] f fd) (S : FnScope N ps scope) (hnp : ps.length = np) (hns : N.length = ns) (hmd : MdOk md) (hmx : MxOk mx)
    (hbody : ∀ (cdv : Value) (hid : Addr → Prop) (A : Around) (outer : List Env) (s : Shared) (H : Hp) (E : XK), RoomG k (A.deeper (envOfC qual scope s.heap.objs.size f cdv)) →
      SSs (Y.re hid) (fun c d _ H' => E c d H') (cxOf (CX P w) P w K mg base N qual scope f cdv A outer s H E) m body) :
    FnG Y P w K mg base (k + 1) f fd ps (mFn md mx np ns m) := by
  obtain ⟨oc, od, dV, kV, doc, pm, an, cdv, ct, osl, rfl, lk, hcd, _, _⟩ := F.ex
  exact fn_ofM lk hcd S hnp hns hmd hmx fun hid A outer s H E hr => hbody cdv hid A outer s H E hr
end Mini
namespace Mini
open PySem PySem.Spec PyProof.Rows L2
theorem wipe_keep {s : L2.St} {u : Nat} : ∀ ws : List Nat, u ∈ ws → (L2.wipe s ws).set u none = L2.wipe s ws := by
  intro ws
  induction ws with
  | nil => intro h; cases h
  | cons w ws ihw =>
    intro h
    show ((L2.wipe s ws).set w none).set u none = (L2.wipe s ws).set w none
    by_cases ew : w = u
    · subst ew; rw [List.set_set]
    · have hin : u ∈ ws := by
        rcases List.mem_cons.mp h with e | e
        · exact absurd e.symm ew
        · exact e
      rw [List.set_comm _ _ ew, ihw hin]
theorem wipe_wipe {s : L2.St} (vs : List Nat) : L2.wipe (L2.wipe s vs) vs = L2.wipe s vs := by
  have key : ∀ us : List Nat, (∀ u ∈ us, u ∈ vs) → L2.wipe (L2.wipe s vs) us = L2.wipe s vs := by
    intro us
    induction us with
    | nil => intro _; rfl
    | cons u us ih =>
      intro hu
      show (L2.wipe (L2.wipe s vs) us).set u none = _
      rw [ih fun w hw => hu w (List.mem_cons_of_mem _ hw)]
      exact wipe_keep vs (hu u List.mem_cons_self)
  exact key vs fun _ h => h
def compM2 (ok : MHp → Prop) (g : MG) (t : MT) (mi1 : MI) (g1 : MG) (t1 : MT) (elt : ME) (s0 : MSt) (vs1 : List Nat) : List MV → List MV → MHp → (List MV → MHp → Prop) → Prop
  | [], acc, h, Q => ok h ∧ Q acc h
  | x :: xs, acc, h, Q => ok h ∧ g x s0 h (fun s1 h1 => t s1 h1 (fun b h2 => if b = true then mi1 s1 h2 (fun ys ok1 h3 => compM ok1 g1 t1 elt (wipeM s1 vs1) ys acc h3 (fun acc2 h4 => compM2 ok g t mi1 g1 t1 elt s0 vs1 xs acc2 h4 Q)) NoE else compM2 ok g t mi1 g1 t1 elt s0 vs1 xs acc h2 Q) NoE) NoE
def mLc2 (mi : MI) (g : MG) (t : MT) (mi1 : MI) (g1 : MG) (t1 : MT) (elt : ME) (vs vs1 : List Nat) : ME := fun s h Q E => mi s h (fun xs ok h1 => compM2 ok g t mi1 g1 t1 elt (wipeM s vs) vs1 xs [] h1 (fun ys h2 => Q (.fl ys) h2)) E
section
variable {Y : Lay} {ι : Nat → Addr} {hm : MHp} {H H0 : Hp} {D : Addr}
structure BlkS (Y : Lay) (ι : Nat → Addr) (hm : MHp) (H : Hp) (D : Addr) (acc : List MV) : Prop where
  hr : HR (Y.hide D) ι hm H
  ls : ∃ zs, H D = some (.lst zs) ∧ RepAll (Y.hide D) ι hm.length H acc zs
theorem BlkS.step {ι' : Nat → Addr} {hm' : MHp} {H' : Hp} {acc : List MV} (b : BlkS Y ι hm H D acc) (hr' : HR (Y.hide D) ι' hm' H') (e : Ext hm.length hm'.length ι ι' H H') : BlkS Y ι' hm' H' D acc := by
  obtain ⟨hr, zs, hD, ra⟩ := b
  exact ⟨hr', zs, e.keep D _ hD (hr.hid D (.inr rfl)).2, ra.mono e hr.live⟩
end
theorem Ext.back {n n' : Nat} {ι ι' : Nat → Addr} {H H' : Hp} {D : Addr} {o : HO} (e : Ext n n' ι ι' H H') (hD : ∃ u, H D = some u) : Ext n n' ι ι' (upd H D o) (upd H' D o) where
  le := e.le
  same := e.same
  keep := fun a u h ho => by
    by_cases z : a = D
    · subst z
      rw [upd_same] at h ⊢
      exact h
    · rw [upd_ne z] at h ⊢
      exact e.keep a u h ho
  fresh := fun i h1 h2 => by
    have q := e.fresh i h1 h2
    have z : ι' i ≠ D := fun z => by
      obtain ⟨u, hu⟩ := hD
      rw [z, hu] at q
      cases q
    rw [upd_ne z]
    exact q
theorem upd_upd {H : Hp} {D : Addr} {o u : HO} : upd (upd H D o) D u = upd H D u := by
  funext a
  by_cases z : a = D
  · rw [z, upd_same, upd_same]
  · rw [upd_ne z, upd_ne z, upd_ne z]
theorem upd_self {H : Hp} {D : Addr} {o : HO} (h : H D = some o) : upd H D o = H := by
  funext a
  by_cases z : a = D
  · rw [z, upd_same, h]
  · rw [upd_ne z]
theorem HR.liveU {Y : Lay} {ι : Nat → Addr} {hm : MHp} {H : Hp} {D : Addr} {o : HO} (hr : HR Y ι hm H) (hD : Y.hid D) : Live ι hm.length (upd H D o) := fun i hi => by
  obtain ⟨u, hu, hk⟩ := hr.live i hi
  exact ⟨u, by rw [upd_ne ((hr.hid D hD).2 i hi)]; exact hu, hk⟩
theorem Ext.transU {Y : Lay} {ι ι' ι2 : Nat → Addr} {hm hm' hm2 : MHp} {H H' H2 : Hp} {D : Addr} {o : HO} (hr : HR Y ι hm H) (hr' : HR Y ι' hm' H') (hD : Y.hid D) (e : Ext hm.length hm'.length ι ι' H (upd H' D o)) (e2 : Ext hm'.length hm2.length ι' ι2 H' H2) : Ext hm.length hm2.length ι ι2 H (upd H2 D o) :=
  e.trans (e2.back (hr'.hid D hD).1) hr.live (hr'.liveU hD)
def JRelU (Y : Lay) (D : Addr) (ι : Nat → Addr) (n : Nat) (H : Hp) (J : It) (xs : List MV) (ok : MHp → Prop) : Prop :=
  ∀ (o : HO), H D = some o → mutK o = true → ∀ ι' hm' H', HR Y ι' hm' H' → (∃ o', H' D = some o' ∧ mutK o' = true) → Ext n hm'.length ι ι' H (upd H' D o) → ok hm' → ∀ i : Nat, (xs[i]? = none → J.stop i H') ∧
    ∀ v, xs[i]? = some v → J.go i H' ∧ ∀ x H2, J.yld i H' x H2 → HR Y ι' hm' H2 ∧ Ext hm'.length hm'.length ι' ι' H' H2 ∧ Rep Y ι' hm'.length H2 v x
def tMIU (Y : Lay) (D : Addr) (W : WX) (m : MI) : TI := fun s H R => ∃ ι sm hm Rm Em, HR Y ι hm H ∧ RS Y ι hm.length H sm s ∧ m sm hm Rm Em ∧ TrX Y ι hm.length H s Em W ∧
  ∀ xs ok h1 ι1 H1 J, HR Y ι1 h1 H1 → Ext hm.length h1.length ι ι1 H H1 → JRelU Y D ι1 h1.length H1 J xs ok → Rm xs ok h1 → R J H1
abbrev SIU (Y : Lay) (D : Addr) (W : WX) (X : Cx) (m : MI) (tg iter : Expr) : Prop := PI X tg iter (tMIU Y D W m)
theorem jrelU_rng {Y : Lay} {D : Addr} {ι : Nat → Addr} {n : Nat} {H : Hp} {lo hi : Int} {k : Nat} (hk : k = (hi - lo).toNat) : JRelU Y D ι n H (Itr lo k) (rng lo hi) (fun _ => True) := by
  subst hk
  intro o ho hk ι' hm' H' hr' _ ex _ i
  refine ⟨fun e => ?_, fun v e => ?_⟩
  · have := List.getElem?_eq_none_iff.mp e
    unfold rng at this
    rw [List.length_map, List.length_range] at this
    exact this
  · unfold rng at e
    rw [List.getElem?_map] at e
    obtain ⟨j, hj, ev⟩ := Option.map_eq_some_iff.mp e
    obtain ⟨hl, ej⟩ := List.getElem?_eq_some_iff.mp hj
    rw [List.length_range] at hl
    rw [List.getElem_range] at ej
    subst ej
    have hl2 := hl
    refine ⟨hl2, fun x H2 ⟨e2, ez⟩ => ?_⟩
    subst e2 ez
    subst ev
    exact ⟨hr', .refl, .int _⟩
theorem siu_rng1 {Y : Lay} {D : Addr} {W : WX} {X : Cx} {r : MA} {tg a : Expr} {p pos : Pos} (hg : Gl X "range") (hm : X.mg "range" = none) (ha : SA Y W X r [a]) (hs : starEach [a] X.env = [(false, eval a X.env)] := by rfl) : SIU Y D W X (iRng1 r) tg (.Call (.Name "range" p) [a] [] pos) :=
  piI (pi_range1 hg hm ha hs) fun s H R ⟨ι, sm, hm, Rm, Em, hr, rs, q, tx, tr⟩ => by
    refine ⟨ι, sm, hm, _, Em, hr, rs, q, fun vs h1 ι1 H1 xs hr1 e1 r1 q1 => ?_, tx⟩
    cases r1 with
    | nil => exact q1.elim
    | cons ra rb =>
      cases rb with
      | nil =>
        cases ra with
        | int j => exact ⟨j, rfl, q1.2.1, q1.1, tr _ _ _ _ _ _ hr1 e1 (jrelU_rng (by simp)) q1.2.2⟩
        | _ => exact q1.elim
      | cons rc rd => cases ra <;> exact q1.elim
theorem Rep.back {Y : Lay} {ι ι' : Nat → Addr} {n n' : Nat} {H H' : Hp} {D : Addr} {o o' : HO} (hD : Y.hid D) (ho : mutK o = true) (hD' : H' D = some o') (e : Ext n n' ι ι' H (upd H' D o)) (l : Live ι n H) {v : MV} {x : V} (r : Rep Y ι n H v x) : Rep Y ι' n' H' v x := by
  have q := (r.mono e l).updH (o := o') hD upd_same ho
  rwa [upd_upd, upd_self hD'] at q
theorem RepAll.back {Y : Lay} {ι ι' : Nat → Addr} {n n' : Nat} {H H' : Hp} {D : Addr} {o o' : HO} (hD : Y.hid D) (ho : mutK o = true) (hD' : H' D = some o') (e : Ext n n' ι ι' H (upd H' D o)) (l : Live ι n H) {v : List MV} {x : List V} (r : RepAll Y ι n H v x) : RepAll Y ι' n' H' v x := by
  have q := (r.mono e l).updH (o := o') hD upd_same ho
  rwa [upd_upd, upd_self hD'] at q
def iTup (a : ME) : MI := fun s h R E => a s h (fun v h1 => ∃ xs, v = .tup xs ∧ R xs (fun _ => True) h1) E
theorem piU {X : Cx} {tg iter : Expr} {t : Addr → TI} (h : ∀ D, PI X tg iter (t D)) : PI X tg iter (fun s H R => ∃ D, t D s H R) := ⟨fun pins s σ H R I ⟨D, q⟩ => (h D).run pins s σ H R I q⟩
theorem lc2_read {Y : Lay} {W : WX} {mi mi1 : MI} {g g1 : MG} {t t1 : MT} {elt : ME} {vs vs1 : List Nat} {s : L2.St} {H : Hp} {Q : VK}
    (h : tM Y W (mLc2 mi g t mi1 g1 t1 elt vs vs1) s H Q) :
    tLc2 (tMI Y W mi) (fun x s H Q => ∃ D, tMGo (Y.hide D) vs g x s H Q) (fun s H Q => ∃ D, tMT (Y.hide D) NoW t s H Q) (fun s H R => ∃ D, tMIU (Y.hide D) D NoW mi1 s H R) (fun x s H Q => ∃ D, tMGo (Y.hide D) vs1 g1 x s H Q)
      (fun s H Q => ∃ D, tMT (Y.hide D) NoW t1 s H Q) (fun s H Q => ∃ D, tM (Y.hide D) NoW elt s H Q) vs vs1 s H Q := by
  obtain ⟨ι, sm, hm, Qm, Em, hr, rs, q, tq, tx⟩ := h
  refine ⟨ι, sm, hm, _, Em, hr, rs, q, tx, fun xs ok h1 ι1 H1 J hr1 e1 jr q1 D hD => ?_⟩
  have hfree : ∀ a, (Y.hid a ∨ a = D) → Y.hid a ∨ H1 a = none := fun a ha => ha.imp id fun z => by rw [z]; exact hD
  have tq1 := tq.mono e1 hr.live hr1.live
  have rs1 := (rs.mono e1 hr.live).wipe vs
  refine ⟨fun i k H' => ∃ ι' hm' acc, BlkS Y ι' hm' H' D acc ∧ compM2 ok g t mi1 g1 t1 elt (wipeM sm vs) vs1 (xs.drop i) acc hm' (fun ys h2 => Qm (.fl ys) h2) ∧ Ext h1.length hm'.length ι1 ι' H1 H' ∧ k = xs.length - i ∧ i ≤ xs.length,
    ⟨_, ι1, h1, [], ⟨hr1.hideNew hD _, [], upd_same, .nil⟩, q1, Ext.new hD, rfl, Nat.zero_le _⟩, ?_⟩
  rintro i k H2 ⟨ι2, hm2, acc, B2, q2, e2, rfl, hi2⟩
  have hr2 := B2.hr
  cases e : xs[i]? with
  | none =>
    have hd : xs.drop i = [] := List.drop_eq_nil_of_le (List.getElem?_eq_none_iff.mp e)
    rw [hd] at q2
    have off : Off Y ι2 hm2.length D := by
      refine ⟨fun z => ?_, (hr2.hid D (.inr rfl)).2⟩
      obtain ⟨u, hu⟩ := (hr1.hid D z).1
      rw [hD] at hu
      cases hu
    obtain ⟨zs, hD2, ra2⟩ := B2.ls
    exact .inl ⟨((jr _ hfree ι2 hm2 H2 hr2 e2 q2.1) i).1 e, kF hr2 off hD2 ra2 q2.2 h1.length ι1 e2.le e2 hD tq1⟩
  | some v =>
    obtain ⟨hlt, ev⟩ := List.getElem?_eq_some_iff.mp e
    have hd : xs.drop i = v :: xs.drop (i + 1) := by rw [List.drop_eq_getElem_cons hlt, ev]
    rw [hd] at q2
    obtain ⟨go, y⟩ := ((jr _ hfree ι2 hm2 H2 hr2 e2 q2.1) i).2 v e
    refine .inr ⟨go, fun H' => ∃ ι' hm' acc, BlkS Y ι' hm' H' D acc ∧ compM2 ok g t mi1 g1 t1 elt (wipeM sm vs) vs1 (xs.drop (i + 1)) acc hm' (fun ys h2 => Qm (.fl ys) h2) ∧ Ext h1.length hm'.length ι1 ι' H1 H',
      fun H' ⟨ι', hm', acc, a1, a2, a5⟩ => ⟨_, by omega, ι', hm', acc, a1, a2, a5, rfl, hlt⟩, fun x H3 yl => ?_⟩
    obtain ⟨hr3, e3, r3⟩ := y x H3 yl
    have e13 := e2.trans e3 hr1.live hr2.live
    have B3 := B2.step hr3 e3
    have rs3 : RS (Y.hide D) ι2 hm2.length H3 (wipeM sm vs) (L2.wipe s vs) := by
      refine ⟨rs1.1, fun j u eu => ?_⟩
      obtain ⟨z, hz, rz⟩ := rs1.2 j u eu
      exact ⟨z, hz, (rz.rehid hfree).mono e13 hr1.live⟩
    refine ⟨D, ι2, wipeM sm vs, hm2, v, _, hr3, rs3, r3, q2.2, fun sm4 h4 ι4 H4 s4 hr4 e4 rs4 hw4 q4 => ?_⟩
    have hw5 : L2.wipe s4 vs = L2.wipe s vs := by rw [hw4, wipe_wipe]
    refine ⟨hw5, ?_⟩
    have B4 := B3.step hr4 e4
    refine ⟨D, ι4, sm4, h4, _, NoE, hr4, rs4, q4, fun b h5 ι5 H5 hr5 e5 q5 => ?_, trX_no⟩
    have B5 := B4.step hr5 e5
    have e15 := (e13.trans e4 hr1.live hr3.live).trans e5 hr1.live hr4.live
    have rs5 := rs4.mono e5 hr4.live
    cases b with
    | false => exact iteF ⟨ι5, h5, acc, B5, q5, e15⟩
    | true =>
      refine iteT ⟨D, ι5, sm4, h5, _, NoE, hr5, rs5, q5, trX_no, fun ys ok1 h6 ι6 H6 J1 hr6 e6 jr1 q6 => ?_⟩
      have B6 := B5.step hr6 e6
      have e16 := e15.trans e6 hr1.live hr5.live
      have rs6 := (rs5.mono e6 hr5.live).wipe vs1
      obtain ⟨z6, hD6, _⟩ := B6.ls
      have hid : (Y.hide D).hid D := .inr rfl
      refine ⟨fun j k H' => ∃ ι' hm' acc, BlkS Y ι' hm' H' D acc ∧ compM ok1 g1 t1 elt (wipeM sm4 vs1) (ys.drop j) acc hm' (fun acc2 h4 => compM2 ok g t mi1 g1 t1 elt (wipeM sm vs) vs1 (xs.drop (i + 1)) acc2 h4 (fun ys h2 => Qm (.fl ys) h2)) ∧ Ext h6.length hm'.length ι6 ι' H6 (upd H' D (.lst z6)) ∧ Ext h1.length hm'.length ι1 ι' H1 H' ∧ k = ys.length - j ∧ j ≤ ys.length,
        ⟨_, ι6, h6, acc, B6, q6, by rw [upd_self hD6]; exact .refl, e16, rfl, Nat.zero_le _⟩, ?_⟩
      rintro j k H7 ⟨ι7, hm7, acc7, B7, q7, e67, e17, rfl, hj7⟩
      have hr7 := B7.hr
      cases ej : ys[j]? with
      | none =>
        have hd : ys.drop j = [] := List.drop_eq_nil_of_le (List.getElem?_eq_none_iff.mp ej)
        rw [hd] at q7
        exact .inl ⟨((jr1 _ hD6 rfl ι7 hm7 H7 hr7 ⟨_, B7.ls.choose_spec.1, rfl⟩ e67 q7.1) j).1 ej, ι7, hm7, acc7, B7, q7.2, e17⟩
      | some u =>
        obtain ⟨hlt1, eu⟩ := List.getElem?_eq_some_iff.mp ej
        have hd : ys.drop j = u :: ys.drop (j + 1) := by rw [List.drop_eq_getElem_cons hlt1, eu]
        rw [hd] at q7
        obtain ⟨go1, y1⟩ := ((jr1 _ hD6 rfl ι7 hm7 H7 hr7 ⟨_, B7.ls.choose_spec.1, rfl⟩ e67 q7.1) j).2 u ej
        refine .inr ⟨go1, fun H' => ∃ ι' hm' acc, BlkS Y ι' hm' H' D acc ∧ compM ok1 g1 t1 elt (wipeM sm4 vs1) (ys.drop (j + 1)) acc hm' (fun acc2 h4 => compM2 ok g t mi1 g1 t1 elt (wipeM sm vs) vs1 (xs.drop (i + 1)) acc2 h4 (fun ys h2 => Qm (.fl ys) h2)) ∧ Ext h6.length hm'.length ι6 ι' H6 (upd H' D (.lst z6)) ∧ Ext h1.length hm'.length ι1 ι' H1 H',
          fun H' ⟨ι', hm', acc, a1, a2, a5, a6⟩ => ⟨_, by omega, ι', hm', acc, a1, a2, a5, a6, rfl, hlt1⟩, fun x H8 yl => ?_⟩
        obtain ⟨hr8, e8, r8⟩ := y1 x H8 yl
        have e68 := e67.transU hr6 hr7 hid e8
        have e18 := e17.trans e8 hr1.live hr7.live
        have B8 := B7.step hr8 e8
        have rs8 : RS (Y.hide D) ι7 hm7.length H8 (wipeM sm4 vs1) (L2.wipe s4 vs1) := ⟨rs6.1, fun j u eu => by
          obtain ⟨z, hz, rz⟩ := rs6.2 j u eu
          exact ⟨z, hz, rz.back hid rfl B8.ls.choose_spec.1 e68 hr6.live⟩⟩
        refine ⟨D, ι7, wipeM sm4 vs1, hm7, u, _, hr8, rs8, r8, q7.2, fun sm9 h9 ι9 H9 s9 hr9 e9 rs9 hw9 q9 => ?_⟩
        refine ⟨by rw [hw9, wipe_wipe], ?_⟩
        have B9 := B8.step hr9 e9
        refine ⟨D, ι9, sm9, h9, _, NoE, hr9, rs9, q9, fun b hA ιA HA hrA eA qA => ?_, trX_no⟩
        have BA := B9.step hrA eA
        have e6A := (e68.transU hr6 hr8 hid e9).transU hr6 hr9 hid eA
        have e1A := (e18.trans e9 hr1.live hr8.live).trans eA hr1.live hr9.live
        cases b with
        | false => exact iteF ⟨ιA, hA, acc7, BA, qA, e6A, e1A⟩
        | true =>
          refine iteT ⟨D, ιA, sm9, hA, _, NoE, hrA, rs9.mono eA hr9.live, qA, fun w hB ιB HB z hrB eB rB qB => ?_, trX_no⟩
          have BB := BA.step hrB eB
          obtain ⟨zs, hDB, raB⟩ := BB.ls
          have e6B := e6A.transU hr6 hrA hid eB
          have e1B := e1A.trans eB hr1.live hrA.live
          refine ⟨zs, hDB, by rw [← raB.length]; exact qB.1, ιB, hB, acc7 ++ [w], ⟨hrB.updH hid hDB rfl, zs ++ [z], upd_same, (raB.append (.cons rB .nil)).updH hid hDB rfl⟩, qB.2, by rw [upd_upd]; exact e6B, e1B.updF hD⟩
theorem sn_lc2 {Y : Lay} {W : WX} {X : Cx} {mi mi1 : MI} {g g1 : MG} {t t1 : MT} {m : ME} {elt tg iter tg1 iter1 : Expr} {ifs ifs1 : List Expr} {scope : Scope} {own : List (Str × Nat)} {vs1 : List Nat} {pos : Pos} (hc : X.calm = true) (hN : X.N.Nodup) (hi : SI Y W X mi tg iter) (ok : blkC X.N X.env.scope scope own = true) (hv : ∀ i ∈ vs1, i ∈ own.map (·.2))
    (hg : ∀ (D : Addr) (s : Shared) (H : Hp) (C : Addr) (cl : List (Str × Addr)) (fp : List Addr), SGo (Y.hide D) (X.blk s H scope (compEnvC scope cl C X.env) fp) (own.map (·.2)) g tg)
    (ht : ∀ (D : Addr) (s : Shared) (H : Hp) (C : Addr) (cl : List (Str × Addr)) (fp : List Addr), STs (Y.hide D) NoW (X.blk s H scope (compEnvC scope cl C X.env) fp) t ifs)
    (hi1 : ∀ (D : Addr) (s : Shared) (H : Hp) (C : Addr) (cl : List (Str × Addr)) (fp : List Addr), (Y.hide D).hid D → SIU (Y.hide D) D NoW (X.blk s H scope (compEnvC scope cl C X.env) fp) mi1 tg1 iter1)
    (hg1 : ∀ (D : Addr) (s : Shared) (H : Hp) (C : Addr) (cl : List (Str × Addr)) (fp : List Addr), SGo (Y.hide D) (X.blk s H scope (compEnvC scope cl C X.env) fp) vs1 g1 tg1)
    (ht1 : ∀ (D : Addr) (s : Shared) (H : Hp) (C : Addr) (cl : List (Str × Addr)) (fp : List Addr), STs (Y.hide D) NoW (X.blk s H scope (compEnvC scope cl C X.env) fp) t1 ifs1)
    (he : ∀ (D : Addr) (s : Shared) (H : Hp) (C : Addr) (cl : List (Str × Addr)) (fp : List Addr), SE (Y.hide D) NoW (X.blk s H scope (compEnvC scope cl C X.env) fp) m elt) (hs : ∀ x, foldedSetIterable iter X.env x = pure x := by intro _; rfl) (hs1 : ∀ env x, foldedSetIterable iter1 env x = pure x := by intro _ _; rfl) :
    SE Y W X (mLc2 mi g t mi1 g1 t1 m (own.map (·.2)) vs1) (.ListComp elt [⟨tg, iter, ifs, 0⟩, ⟨tg1, iter1, ifs1, 0⟩] scope pos) :=
  peI (pe_lc2 hc hN hi (blkOk_by ok) hv (fun s H C cl fp => pgU fun D => hg D s H C cl fp) (fun s H C cl fp => ptsU fun D => ht D s H C cl fp) (fun s H C cl fp => piU fun D => hi1 D s H C cl fp (.inr rfl)) (fun s H C cl fp => pgU fun D => hg1 D s H C cl fp) (fun s H C cl fp => ptsU fun D => ht1 D s H C cl fp) (fun s H C cl fp => peU fun D => he D s H C cl fp) hs hs1) fun s H Q h => lc2_read h
end Mini
namespace Mini
open PySem PySem.Spec PyProof.Rows L2
section
variable {Y : Lay} {W : WX} {X : Cx}
def isM2 (v u : MV) (h : MHp) (Q : MQ) : Prop := match u with
  | .non => Q (.bl (isNoneM v)) h
  | .bl b => (match v with
    | .bl a => Q (.bl (decide (a = b))) h
    | _ => False)
  | _ => False
def isNotM2 (v u : MV) (h : MHp) (Q : MQ) : Prop := match u with
  | .non => Q (.bl (!isNoneM v)) h
  | .bl b => (match v with
    | .bl a => Q (.bl (!decide (a = b))) h
    | _ => False)
  | _ => False
theorem op_isNotM2 : OpR X (compareOp .IsNot) (R2M Y isNotM2) := by
  intro pins s σ H x y v' u' Q I rx ry ⟨ι, hm, v, u, Qm, hr, rv, ru, q, tq⟩
  cases ru with
  | non => exact op_notN pins s σ H _ _ v' u' Q I rx ry ⟨rfl, by rw [isNone_rep rv]; exact tq.here hr (.bl _) q⟩
  | bl b =>
    cases rv with
    | bl a => exact op_notBl pins s σ H _ _ v' u' Q I rx ry ⟨a, b, rfl, rfl, tq.here hr (.bl _) q⟩
    | _ => exact q.elim
  | _ => exact q.elim
theorem datAll_get : ∀ {xs : List MV} {j : Nat} {z : MV}, xs[j]? = some z → (datAll xs)[j]? = some z.dat
  | [], _, _, h => by simp at h
  | x :: xs, 0, z, h => by
    simp only [List.getElem?_cons_zero, Option.some.injEq] at h
    subst h
    simp [datAll]
  | x :: xs, j + 1, z, h => by
    simp only [List.getElem?_cons_succ] at h
    simp only [datAll, List.getElem?_cons_succ]
    exact datAll_get h
theorem datAll_get' : ∀ {xs : List MV} {j : Nat} {d : PyData}, (datAll xs)[j]? = some d → ∃ z, xs[j]? = some z ∧ d = z.dat
  | [], _, _, h => by simp [datAll] at h
  | x :: xs, 0, d, h => by
    simp only [datAll, List.getElem?_cons_zero, Option.some.injEq] at h
    exact ⟨x, rfl, h.symm⟩
  | x :: xs, j + 1, d, h => by
    simp only [datAll, List.getElem?_cons_succ] at h
    simp only [List.getElem?_cons_succ]
    exact datAll_get' h
def indexM (v : MV) (vs : List MV) (h : MHp) (Q : MQ) : Prop := ∃ xs y j z, lstOf h v = some xs ∧ vs = [y] ∧ (MV.fl xs).ok = true ∧ (der h y).ok = true ∧ xs[j]? = some z ∧ z.eqv (der h y) = true ∧ (∀ (m : Nat) (z' : MV), m < j → xs[m]? = some z' → z'.eqv (der h y) = false) ∧ Q (.int (j : Nat)) h
theorem mt_indexM (hu : X.A.units + 65 < cLine) : MtR X "list.index" (RmM Y indexM) := mtI (mt_indexD hu) fun x xs H Q ⟨ι, hm, v, vs, Qm, hr, r, ra, ⟨ys, y, j, z, hl, e, ok1, ok2, hj, he, hno, q⟩, tq⟩ => by
  subst e
  obtain ⟨yv, rfl, ry⟩ := rep1 ra
  obtain ⟨a, ws, rfl, hs, rw'⟩ := lstOf_rep X.K hr r hl
  have sk : sokAll ys = true := by
    have := sok_ok ok1
    simpa [MV.sok] using this
  have sz : z.sok = true := sok_mem sk (List.mem_of_getElem? hj)
  refine ⟨a, yv, _, _, j, z.dat, rfl, rfl, .lst hs (dpAll_of X.K rw' sk), der_dp X.K hr ry (sok_ok ok2), shaped_ok ok1, shaped_ok ok2, datAll_get hj, ?_, fun m d hm' hd => ?_, tq.here hr (.int _) q⟩
  · rw [← eqv_dat _ _ sz (sok_ok ok2)]; exact he
  · obtain ⟨z', hz', rfl⟩ := datAll_get' hd
    rw [← eqv_dat _ _ (sok_mem sk (List.mem_of_getElem? hz')) (sok_ok ok2)]
    exact hno m z' hm' hz'
abbrev MG2 := MSt → MHp → (Int → Int → MHp → Prop) → MQ → Prop
def rg1 (a : ME) : MG2 := fun s h Q E => a s h (fun v h1 => ∃ j, v = .int j ∧ Q 0 j h1) E
def rg2 (a b : ME) : MG2 := fun s h Q E => a s h (fun v h1 => b s h1 (fun u h2 => ∃ i j, v = .int i ∧ u = .int j ∧ Q i j h2) E) E
def mLstRg (m : MG2) : ME := fun s h Q E => m s h (fun a b h1 => RgOk a b ∧ Q (.fl (rng a b)) h1) E
def mLstRgC (m : MG2) : ME := fun s h Q E => m s h (fun a b h1 => RgOk a b ∧ Q (.ref h1.length) (h1 ++ [.lst (rng a b)])) E
def mTupRg (m : MG2) : ME := fun s h Q E => m s h (fun a b h1 => RgOk a b ∧ Q (.tup (rng a b)) h1) E
def mAug (f : Int → Int → Int) (i : Nat) (a : ME) : MS := fun s h D => ∃ k, s[i]? = some (some (.int k)) ∧ a s h (fun v h1 => ∃ j, v = .int j ∧ D.nx (s.set i (some (.int (f k j)))) h1) (fun e h' => D.ex e s h')
end
end Mini
namespace Mini
open PySem PySem.Spec PyProof.Rows L2

theorem comp_ind {ok : MHp → Prop} {g : MG} {t : MT} {elt : ME} {s0 : MSt} {Q : List MV → MHp → Prop} (I : List MV → List MV → MHp → Prop) (hok : ∀ xs acc h, I xs acc h → ok h) (hend : ∀ acc h, I [] acc h → Q acc h)
    (hstep : ∀ (x : MV) (xs acc : List MV) (h : MHp) (K : List MV → MHp → Prop), I (x :: xs) acc h → (∀ acc2 h2, I xs acc2 h2 → K acc2 h2) → g x s0 h (fun s1 h1 => t s1 h1 (fun b h2 => if b = true then elt s1 h2 (fun v h3 => acc.length < sizeLine ∧ K (acc ++ [v]) h3) NoE else K acc h2) NoE) NoE) :
    ∀ xs acc h, I xs acc h → compM ok g t elt s0 xs acc h Q
  | [], acc, h, i => ⟨hok _ _ _ i, hend acc h i⟩
  | x :: xs, acc, h, i => ⟨hok _ _ _ i, hstep x xs acc h (fun acc2 h2 => compM ok g t elt s0 xs acc2 h2 Q) i fun a2 h2 i2 => comp_ind I hok hend hstep xs a2 h2 i2⟩
theorem comp_pure {ok : MHp → Prop} {g : MG} {t : MT} {elt : ME} {s0 : MSt} {Q : List MV → MHp → Prop} {h : MHp} (f : MV → Option MV) (hok : ok h) :
    ∀ (xs acc : List MV), acc.length + xs.length ≤ sizeLine → (∀ x ∈ xs, ∀ (acc : List MV) (K : List MV → MHp → Prop), acc.length < sizeLine → K (acc ++ (f x).toList) h → g x s0 h (fun s1 h1 => t s1 h1 (fun b h2 => if b = true then elt s1 h2 (fun v h3 => acc.length < sizeLine ∧ K (acc ++ [v]) h3) NoE else K acc h2) NoE) NoE) →
    Q (acc ++ xs.filterMap f) h → compM ok g t elt s0 xs acc h Q
  | [], acc, _, _, q => ⟨hok, by simpa using q⟩
  | x :: xs, acc, hl, hs, q => by
    rw [List.length_cons] at hl
    refine ⟨hok, hs x List.mem_cons_self acc (fun acc2 h2 => compM ok g t elt s0 xs acc2 h2 Q) (by omega) ?_⟩
    refine comp_pure f hok xs _ ?_ (fun y hy => hs y (List.mem_cons_of_mem _ hy)) ?_
    · have : (f x).toList.length ≤ 1 := by cases f x <;> simp
      rw [List.length_append]
      omega
    · rw [List.append_assoc]
      rw [List.filterMap_cons] at q
      cases e : f x with
      | none => rw [e] at q; simpa using q
      | some v => rw [e] at q; simpa using q
theorem while_ind {t : MT} {b : MS} {D : MD} (I : Nat → MSt → MHp → Prop)
    (hstep : ∀ n s h K, I n s h → (∀ m s2 h2, m < n → I m s2 h2 → K s2 h2) → t s h (fun c h1 => if c = true then b s h1 { D with nx := K, ct := K, bk := D.nx } else D.nx s h1) (fun e h' => D.ex e s h')) {n : Nat} {s : MSt} {h : MHp} (i : I n s h) : mWhile t b s h D := by
  have key : ∀ (f n : Nat) (s : MSt) (h : MHp), n < f → I n s h → whileN t b f s h D := by
    intro f
    induction f with
    | zero => intro n s h hn; omega
    | succ f ih => exact fun n s h hn i => hstep n s h (fun s2 h2 => whileN t b f s2 h2 D) i fun m s2 h2 hm i2 => ih m s2 h2 (by omega) i2
  exact ⟨n + 1, key (n + 1) n s h (Nat.lt_succ_self _) i⟩

theorem fmod_bd {i j : Int} (h : 0 < j) : 0 ≤ i.fmod j ∧ i.fmod j < j := ⟨Int.fmod_nonneg_of_pos _ h, Int.fmod_lt_of_pos _ h⟩
theorem atI_at {α : Type} {xs : List α} {i : Int} (h0 : 0 ≤ i) (h1 : i < xs.length) : ∃ x, L2.atI xs i = some x ∧ xs[i.toNat]? = some x := by
  have hl : i.toNat < xs.length := by omega
  refine ⟨xs[i.toNat], ?_, List.getElem?_eq_getElem hl⟩
  have := L2.atI_nat (xs := xs) (j := i.toNat) (v := xs[i.toNat]) (List.getElem?_eq_getElem hl)
  rwa [Int.toNat_of_nonneg h0] at this
theorem atI_int {ps : List Int} {i : Int} (h0 : 0 ≤ i) (h1 : i < ps.length) : ∃ p, p ∈ ps ∧ L2.atI (ps.map MV.int) i = some (.int p) := by
  obtain ⟨x, e1, e2⟩ := atI_at (xs := ps.map MV.int) h0 (by simpa using h1)
  rw [List.getElem?_map, Option.map_eq_some_iff] at e2
  obtain ⟨p, hp, rfl⟩ := e2
  exact ⟨p, List.mem_of_getElem? hp, e1⟩
theorem mdF_same {n : Nat} {Q : MQ} {v : MV} {h : MHp} (hl : h.length = n) (ho : oldOk n h = true) (hv : (frz n h 8 v).lo n = true) (q : Q (frz n h 8 v) h) : mdF n Q v h := by
  have e : h.take n = h := List.take_of_length_le (by omega)
  refine ⟨by omega, ho, hv, ?_⟩
  rw [e]
  exact q
theorem mul_bd {a b A B : Int} (ha : 0 ≤ a) (hA : a ≤ A) (hb : 0 ≤ b) (hB : b ≤ B) : 0 ≤ a * b ∧ a * b ≤ A * B :=
  ⟨Int.mul_nonneg ha hb, Int.mul_le_mul hA hB hb (Int.le_trans ha hA)⟩
theorem cpow {i j : Int} (h0 : 0 ≤ i) (h1 : i < 2 ^ 64) (h2 : 0 ≤ j) (h3 : j ≤ 1000000) : CPow i j := ⟨h2, h3, by omega⟩
theorem cmulL {i j : Int} (h0 : -(2 ^ 64) < i) (h1 : i < 2 ^ 64) : CMul i j := .inl ⟨h0, h1⟩
theorem cmulR {i j : Int} (h0 : -(2 ^ 64) < j) (h1 : j < 2 ^ 64) : CMul i j := .inr ⟨h0, h1⟩
theorem smallLine {n : Nat} (h : n ≤ 16777216) : n ≤ sizeLine := by rw [sizeLine_eq]; exact h
theorem modM_ps {i p : Int} {h : MHp} {Q : MQ} (hp : 0 < p) (q : Q (.int (i.fmod p)) h) : modM (.int i) (.int p) h Q := ⟨by omega, q⟩
theorem atI0 {α : Type} {x : α} {xs : List α} : L2.atI (x :: xs) 0 = some x := L2.atI_nat (j := 0) rfl
theorem atI1 {α : Type} {x y : α} {xs : List α} : L2.atI (x :: y :: xs) 1 = some y := L2.atI_nat (j := 1) rfl
theorem atI2 {α : Type} {x y z : α} {xs : List α} : L2.atI (x :: y :: z :: xs) 2 = some z := L2.atI_nat (j := 2) rfl
theorem ixN30 : L2.ixN 3 0 = some 0 := rfl
theorem ixN31 : L2.ixN 3 1 = some 1 := rfl
theorem ixN32 : L2.ixN 3 2 = some 2 := rfl
theorem sokAll_iff {xs : List MV} : sokAll xs = true ↔ ∀ x ∈ xs, x.sok = true := by
  induction xs with
  | nil => simp [sokAll]
  | cons x xs ih => simp [sokAll, ih]
theorem frz_sok {n : Nat} {h : MHp} : ∀ (k : Nat) {v : MV}, v.sok = true → frz n h k v = v
  | 0, v, _ => rfl
  | k + 1, v, hv => by
    have all : ∀ {xs : List MV}, sokAll xs = true → xs.map (frz n h k) = xs := by
      intro xs hx
      have := sokAll_iff.mp hx
      conv => rhs; rw [← List.map_id xs]
      exact List.map_congr_left fun x hx => frz_sok k (this x hx)
    cases v with
    | tup xs => simp only [MV.sok] at hv; simp only [frz, all hv]
    | fl xs => simp only [MV.sok] at hv; simp only [frz, all hv]
    | ref i => simp [MV.sok] at hv
    | _ => rfl
mutual
theorem lo_sok (n : Nat) : ∀ v : MV, v.sok = true → v.lo n = true
  | .non, _ => rfl
  | .bl _, _ => rfl
  | .int _, _ => rfl
  | .str _, _ => rfl
  | .tup xs, h => loAll_sok n xs (by simpa [MV.sok] using h)
  | .fl xs, h => loAll_sok n xs (by simpa [MV.sok] using h)
  | .sc xs, h => loAll_sok n xs (by simpa [MV.sok] using h)
  | .fd _ _, h => by simp [MV.sok] at h
  | .fs _, h => by simp [MV.sok] at h
  | .fi _ _, h => by simp [MV.sok] at h
  | .ex _ _, h => by simp [MV.sok] at h
  | .ref _, h => by simp [MV.sok] at h
theorem loAll_sok (n : Nat) : ∀ xs : List MV, sokAll xs = true → loAll n xs = true
  | [], _ => rfl
  | x :: xs, h => by
    simp only [sokAll, Bool.and_eq_true] at h
    simp only [loAll, Bool.and_eq_true]
    exact ⟨lo_sok n x h.1, loAll_sok n xs h.2⟩
end
theorem mdF_sok {n : Nat} {Q : MQ} {v : MV} {h u : MHp} (hl : h.length = n) (ho : oldOk n h = true) (hv : v.sok = true) (q : Q v h) : mdF n Q v (h ++ u) := by
  have e : (h ++ u).take n = h := by rw [← hl, List.take_left']; rfl
  refine ⟨by rw [List.length_append]; omega, ?_, by rw [frz_sok 8 hv]; exact lo_sok n v hv, by rw [frz_sok 8 hv, e]; exact q⟩
  unfold oldOk at ho ⊢
  rw [e]
  rw [List.take_of_length_le (by omega)] at ho
  exact ho
theorem mdF_new {n : Nat} {Q : MQ} {i : Nat} {xs : List MV} {h u : MHp} (hl : h.length = n) (ho : oldOk n h = true) (hi : n ≤ i) (hc : (h ++ u)[i]? = some (.lst xs)) (hv : sokAll xs = true) (q : Q (.fl xs) h) : mdF n Q (.ref i) (h ++ u) := by
  have e : (h ++ u).take n = h := by rw [← hl, List.take_left']; rfl
  have ef : frz n (h ++ u) 8 (.ref i) = .fl xs := by
    show (if i < n then _ else _) = _
    rw [if_neg (by omega), hc]
    show MV.fl (xs.map (frz n (h ++ u) 7)) = _
    have := sokAll_iff.mp hv
    congr 1
    conv => rhs; rw [← List.map_id xs]
    exact List.map_congr_left fun x hx => frz_sok 7 (this x hx)
  refine ⟨by rw [List.length_append]; omega, ?_, by rw [ef]; exact loAll_sok n xs hv, by rw [ef, e]; exact q⟩
  unfold oldOk at ho ⊢
  rw [e]
  rw [List.take_of_length_le (by omega)] at ho
  exact ho
end Mini
namespace Mini
open PySem PySem.Spec PyProof.Rows L2
mutual
/-- a bound of the text's length -/
def MV.sz : MV → Nat
  | .int _ => 1921
  | .str x => 10 * x.length + 2
  | .tup xs => szAll xs + 4
  | .fl xs => szAll xs + 4
  | .sc xs => szAll xs + 4
  | _ => 6
def szAll : List MV → Nat
  | [] => 0
  | x :: xs => x.sz + 2 + szAll xs
end
mutual
/-- its ints can be shown, its texts are texts -/
def MV.shb : MV → Bool
  | .int i => decide (i.natAbs.log2 < 1920)
  | .str x => x.cps.toList.all fun c => decide (c < 16 ^ 8)
  | .tup xs => shbAll xs
  | .fl xs => shbAll xs
  | .sc xs => shbAll xs
  | _ => true
def shbAll : List MV → Bool
  | [] => true
  | x :: xs => x.shb && shbAll xs
end
theorem textFrom_le : ∀ (ts : List Str) (k : Nat) (acc : Str), (textFrom k acc ts).length ≤ acc.length + piled ts
  | [], k, acc => by show acc.length ≤ acc.length + 0; omega
  | t :: r, k, acc => by
    have h := textFrom_le r (k + 1) (acc ++ (if k > 0 then ", " else "" : String) ++ t)
    have e : (acc ++ (if k > 0 then ", " else "" : String) ++ t).length ≤ acc.length + 2 + t.length := by
      rw [strLen_append, strLen_append]
      have : (Str.ofString (if k > 0 then ", " else "" : String)).length ≤ 2 := by split <;> decide
      have e2 : ((if k > 0 then ", " else "" : String) : Str).length = (Str.ofString (if k > 0 then ", " else "" : String)).length := rfl
      omega
    have ep : piled (t :: r) = t.length + 2 + piled r := by simp [piled]
    show (textFrom (k + 1) (acc ++ (if k > 0 then ", " else "" : String) ++ t) r).length ≤ _
    omega
theorem listText_le (ts : List Str) : (listText ts).length ≤ piled ts + 2 := by
  have h := textFrom_le ts 0 "["
  unfold listText
  rw [strLen_append]
  have e1 : (("[" : String) : Str).length = 1 := rfl
  have e2 : (("]" : String) : Str).length = 1 := rfl
  omega
theorem tupleText_le (ts : List Str) : (tupleText ts).length ≤ piled ts + 3 := by
  unfold tupleText
  rw [strLen_append, strLen_append]
  have e1 : (("(" : String) : Str).length = 1 := rfl
  have e2 : ((if ts.length == 1 then ",)" else ")" : String) : Str).length ≤ 2 := by split <;> decide
  by_cases h : ts = []
  · subst h
    have : (Str.join ", " ([] : List Str)).length = 0 := rfl
    omega
  · have := join_length_add ts h
    omega
mutual
theorem shown_le : ∀ v : MV, v.sok = true → v.shb = true → v.dat.shown.length ≤ v.sz
  | .non, _, _ => by decide
  | .bl b, _, _ => by cases b <;> decide
  | .int i, _, h => by
    have e := int_text_length_le (a := i) (k := 1920) (by decide) (by simpa [MV.shb] using h)
    show (Str.ofString (toString i)).length ≤ 1921
    rw [PySem.ofString_length]
    omega
  | .str x, _, h => by
    have hx : ∀ c ∈ x.cps.toList, c < 16 ^ 8 := by
      intro c hc
      have h' : (x.cps.toList.all fun c => decide (c < 16 ^ 8)) = true := h
      exact of_decide_eq_true (List.all_eq_true.mp h' c hc)
    exact StrLaws.reprText_len x hx
  | .tup xs, hs, h => by
    have q := shownAll_le xs (by simpa [MV.sok] using hs) (by simpa [MV.shb] using h)
    have t := tupleText_le (PyData.shownAll (datAll xs))
    show (tupleText (PyData.shownAll (datAll xs))).length ≤ szAll xs + 4
    omega
  | .fl xs, hs, h => by
    have q := shownAll_le xs (by simpa [MV.sok] using hs) (by simpa [MV.shb] using h)
    have t := listText_le (PyData.shownAll (datAll xs))
    show (listText (PyData.shownAll (datAll xs))).length ≤ szAll xs + 4
    omega
  | .sc xs, hs, h => by
    have q := shownAll_le xs (by simpa [MV.sok] using hs) (by simpa [MV.shb] using h)
    have t := listText_le (PyData.shownAll (datAll xs))
    show (listText (PyData.shownAll (datAll xs))).length ≤ szAll xs + 4
    omega
  | .fd _ _, h, _ => by simp [MV.sok] at h
  | .fs _, h, _ => by simp [MV.sok] at h
  | .fi _ _, h, _ => by simp [MV.sok] at h
  | .ex _ _, h, _ => by simp [MV.sok] at h
  | .ref _, h, _ => by simp [MV.sok] at h
theorem shownAll_le : ∀ xs : List MV, sokAll xs = true → shbAll xs = true → piled (PyData.shownAll (datAll xs)) ≤ szAll xs
  | [], _, _ => by simp [datAll, PyData.shownAll, piled]
  | x :: xs, hs, h => by
    simp only [sokAll, Bool.and_eq_true] at hs
    simp only [shbAll, Bool.and_eq_true] at h
    have a := shown_le x hs.1 h.1
    have b := shownAll_le xs hs.2 h.2
    have ep : piled (PyData.shownAll (datAll (x :: xs))) = x.dat.shown.length + 2 + piled (PyData.shownAll (datAll xs)) := by simp [datAll, PyData.shownAll, piled]
    simp only [szAll]
    omega
end
mutual
theorem showable_of : ∀ v : MV, v.sok = true → v.shb = true → v.dat.showable = true ∧ v.dat.hasDict = false ∧ v.dat.depth ≤ v.dep
  | .non, _, _ => ⟨rfl, rfl, Nat.le_refl _⟩
  | .bl b, _, _ => ⟨rfl, rfl, Nat.le_refl _⟩
  | .int i, _, h => ⟨by simpa [MV.dat, PyData.showable, MV.shb] using h, rfl, Nat.le_refl _⟩
  | .str x, _, _ => ⟨rfl, rfl, Nat.le_refl _⟩
  | .tup xs, hs, h => by
    have q := showableAll_of xs (by simpa [MV.sok] using hs) (by simpa [MV.shb] using h)
    exact ⟨by simpa [MV.dat, PyData.showable] using q.1, by simpa [MV.dat, PyData.hasDict] using q.2.1, by simp only [MV.dat, PyData.depth, MV.dep]; omega⟩
  | .fl xs, hs, h => by
    have q := showableAll_of xs (by simpa [MV.sok] using hs) (by simpa [MV.shb] using h)
    exact ⟨by simpa [MV.dat, PyData.showable] using q.1, by simpa [MV.dat, PyData.hasDict] using q.2.1, by simp only [MV.dat, PyData.depth, MV.dep]; omega⟩
  | .sc xs, hs, h => by
    have q := showableAll_of xs (by simpa [MV.sok] using hs) (by simpa [MV.shb] using h)
    exact ⟨by simpa [MV.dat, PyData.showable] using q.1, by simpa [MV.dat, PyData.hasDict] using q.2.1, by simp only [MV.dat, PyData.depth, MV.dep]; omega⟩
  | .fd _ _, h, _ => by simp [MV.sok] at h
  | .fs _, h, _ => by simp [MV.sok] at h
  | .fi _ _, h, _ => by simp [MV.sok] at h
  | .ex _ _, h, _ => by simp [MV.sok] at h
  | .ref _, h, _ => by simp [MV.sok] at h
theorem showableAll_of : ∀ xs : List MV, sokAll xs = true → shbAll xs = true → PyData.showableAll (datAll xs) = true ∧ PyData.hasDictAll (datAll xs) = false ∧ PyData.depthAll (datAll xs) ≤ depAll xs
  | [], _, _ => ⟨rfl, rfl, Nat.le_refl _⟩
  | x :: xs, hs, h => by
    simp only [sokAll, Bool.and_eq_true] at hs
    simp only [shbAll, Bool.and_eq_true] at h
    obtain ⟨a1, a2, a3⟩ := showable_of x hs.1 h.1
    obtain ⟨b1, b2, b3⟩ := showableAll_of xs hs.2 h.2
    exact ⟨by simp only [datAll, PyData.showableAll, a1, b1, Bool.and_self], by simp only [datAll, PyData.hasDictAll, a2, b2, Bool.or_self], by simp only [datAll, PyData.depthAll, depAll]; omega⟩
end
theorem rok_of {v : MV} (hs : v.sok = true) (hb : v.shb = true) (hd : v.dep ≤ 50) (hz : v.sz ≤ 16777216) : ROk v.dat := by
  obtain ⟨a, b, c⟩ := showable_of v hs hb
  exact ⟨a, b, by omega, by have := shown_le v hs hb; rw [sizeLine_eq]; omega⟩
theorem kit_ii : kitB "int" "int" = some true := by decide +kernel
theorem kit_bi : kitB "bool" "int" = some true := by decide +kernel
theorem kit_ni : kitB "NoneType" "int" = some false := by decide +kernel
theorem kit_si : kitB "str" "int" = some false := by decide +kernel
theorem kit_ti : kitB "tuple" "int" = some false := by decide +kernel
theorem kit_li : kitB "list" "int" = some false := by decide +kernel
theorem kit_ib : kitB "int" "bool" = some false := by decide +kernel
theorem kit_bb : kitB "bool" "bool" = some true := by decide +kernel
theorem kit_tt : kitB "tuple" "tuple" = some true := by decide +kernel
theorem kit_it : kitB "int" "tuple" = some false := by decide +kernel
theorem kit_bt : kitB "bool" "tuple" = some false := by decide +kernel
theorem kit_nt : kitB "NoneType" "tuple" = some false := by decide +kernel
theorem kit_st : kitB "str" "tuple" = some false := by decide +kernel
theorem kit_lt : kitB "list" "tuple" = some false := by decide +kernel
theorem eqM_int {i j : Int} {h : MHp} {Q : MQ} : eqM (.int i) (.int j) h Q ↔ Q (.bl (i == j)) h := by
  unfold eqM
  simp [der, MV.ok, MV.sok, MV.dep, MV.eqv]
theorem neM_int {i j : Int} {h : MHp} {Q : MQ} : neM (.int i) (.int j) h Q ↔ Q (.bl (!(i == j))) h := by
  unfold neM
  simp [der, MV.ok, MV.sok, MV.dep, MV.eqv]
theorem len2 {α : Type} : ∀ {xs : List α}, xs.length = 2 → ∃ a b, xs = [a, b]
  | [a, b], _ => ⟨a, b, rfl⟩
theorem len3 {α : Type} : ∀ {xs : List α}, xs.length = 3 → ∃ a b c, xs = [a, b, c]
  | [a, b, c], _ => ⟨a, b, c, rfl⟩
theorem eq_of_sorted {α : Type} {le : α → α → Prop} (anti : ∀ a b, le a b → le b a → a = b) : ∀ {l m : List α}, l.Perm m → l.Pairwise le → m.Pairwise le → l = m
  | [], m, p, _, _ => by simpa using p
  | a :: l, [], p, _, _ => by simp at p
  | a :: l, b :: m, p, hl, hm => by
    rw [List.pairwise_cons] at hl hm
    have e : a = b := by
      have h1 : a ∈ b :: m := p.mem_iff.mp List.mem_cons_self
      have h2 : b ∈ a :: l := p.mem_iff.mpr List.mem_cons_self
      rcases List.mem_cons.mp h1 with e | h1
      · exact e
      · rcases List.mem_cons.mp h2 with e | h2
        · exact e.symm
        · exact anti a b (hl.1 b h2) (hm.1 a h1)
    subst e
    rw [eq_of_sorted anti (List.Perm.cons_inv p) hl.2 hm.2]
theorem getK {h : MHp} {c : Cell} : (h ++ [c])[h.length]? = some c := by simp
theorem setK {h : MHp} {c d : Cell} : (h ++ [c]).set h.length d = h ++ [d] := by simp
end Mini
namespace Mini
open PySem PySem.Spec PyProof.Rows L2
def irng (lo hi : Int) : List Int := (List.range (hi - lo).toNat).map fun i : Nat => lo + i
theorem rng_irng (lo hi : Int) : rng lo hi = (irng lo hi).map .int := by unfold rng irng; rw [List.map_map] <;> rfl
theorem irng_len {lo hi : Int} : (irng lo hi).length = (hi - lo).toNat := by unfold irng; rw [List.length_map, List.length_range]
theorem irng_nil {lo hi : Int} (h : hi ≤ lo) : irng lo hi = [] := by unfold irng; rw [show (hi - lo).toNat = 0 by omega]; rfl
theorem irng_succ {lo hi : Int} (h : lo < hi) : irng lo hi = lo :: irng (lo + 1) hi := by
  unfold irng
  rw [show (hi - lo).toNat = (hi - (lo + 1)).toNat + 1 by omega, List.range_succ_eq_map, List.map_cons, List.map_map]
  congr 1
  · simp
  · refine List.map_congr_left fun i _ => ?_
    show lo + ((i + 1 : Nat) : Int) = lo + 1 + (i : Int)
    omega
section
variable {α β : Type} {ea : α → MV} {eb : β → MV} {ok : MHp → Prop} {g : MG} {t : MT} {elt : ME} {s0 : MSt} {Q : List MV → MHp → Prop} {h : MHp}
theorem comp_fmA (f : α → Option β) (hok : ok h) : ∀ (as : List α) (acc : List MV), acc.length + as.length ≤ 16777216 →
    (∀ a ∈ as, ∀ (acc : List MV) (K : List MV → MHp → Prop), acc.length < sizeLine → K (acc ++ ((f a).map eb).toList) h → g (ea a) s0 h (fun s1 h1 => t s1 h1 (fun b h2 => if b = true then elt s1 h2 (fun v h3 => acc.length < sizeLine ∧ K (acc ++ [v]) h3) NoE else K acc h2) NoE) NoE) →
    Q (acc ++ (as.filterMap f).map eb) h → compM ok g t elt s0 (as.map ea) acc h Q
  | [], acc, _, _, q => ⟨hok, by simpa using q⟩
  | a :: as, acc, hl, hs, q => by
    rw [List.length_cons] at hl
    refine ⟨hok, hs a List.mem_cons_self acc (fun acc2 h2 => compM ok g t elt s0 (as.map ea) acc2 h2 Q) (by rw [sizeLine_eq]; omega) ?_⟩
    refine comp_fmA f hok as _ ?_ (fun y hy => hs y (List.mem_cons_of_mem _ hy)) ?_
    · have : ((f a).map eb).toList.length ≤ 1 := by cases f a <;> simp
      rw [List.length_append]
      omega
    · rw [List.append_assoc]
      rw [List.filterMap_cons] at q
      cases e : f a with
      | none => rw [e] at q; simpa using q
      | some v => rw [e] at q; simpa using q
theorem comp_fm (f : α → Option β) {as : List α} (hok : ok h) (hl : as.length ≤ 16777216) (hs : ∀ a ∈ as, ∀ (acc : List MV) (K : List MV → MHp → Prop), acc.length < sizeLine → K (acc ++ ((f a).map eb).toList) h → g (ea a) s0 h (fun s1 h1 => t s1 h1 (fun b h2 => if b = true then elt s1 h2 (fun v h3 => acc.length < sizeLine ∧ K (acc ++ [v]) h3) NoE else K acc h2) NoE) NoE)
    (q : Q ((as.filterMap f).map eb) h) : compM ok g t elt s0 (as.map ea) [] h Q :=
  comp_fmA f hok as [] (by simpa using hl) hs q
theorem comp_map (f : α → β) {as : List α} (hok : ok h) (hl : as.length ≤ 16777216) (hs : ∀ a ∈ as, ∀ (acc : List MV) (K : List MV → MHp → Prop), acc.length < sizeLine → K (acc ++ [eb (f a)]) h → g (ea a) s0 h (fun s1 h1 => t s1 h1 (fun b h2 => if b = true then elt s1 h2 (fun v h3 => acc.length < sizeLine ∧ K (acc ++ [v]) h3) NoE else K acc h2) NoE) NoE)
    (q : Q ((as.map f).map eb) h) : compM ok g t elt s0 (as.map ea) [] h Q :=
  comp_fm (eb := eb) (fun a => some (f a)) hok hl (fun a ha acc K h1 h2 => hs a ha acc K h1 h2) (by show Q (List.map eb (List.filterMap (some ∘ f) as)) h; rw [List.filterMap_eq_map]; exact q)
theorem comp_filter_map (p : α → Bool) (f : α → β) {as : List α} (hok : ok h) (hl : as.length ≤ 16777216) (hs : ∀ a ∈ as, ∀ (acc : List MV) (K : List MV → MHp → Prop), acc.length < sizeLine → K (if p a = true then acc ++ [eb (f a)] else acc) h → g (ea a) s0 h (fun s1 h1 => t s1 h1 (fun b h2 => if b = true then elt s1 h2 (fun v h3 => acc.length < sizeLine ∧ K (acc ++ [v]) h3) NoE else K acc h2) NoE) NoE)
    (q : Q (((as.filter p).map f).map eb) h) : compM ok g t elt s0 (as.map ea) [] h Q := by
  refine comp_fm (eb := eb) (fun a => if p a = true then some (f a) else none) hok hl (fun a ha acc K h1 h2 => hs a ha acc K h1 ?_) ?_
  · cases e : p a <;> simp [e] at h2 ⊢ <;> exact h2
  · have e : as.filterMap (fun a => if p a = true then some (f a) else none) = (as.filter p).map f := by
      clear hl hs q
      induction as with
      | nil => rfl
      | cons a as ih => cases e : p a <;> simp [e, ih]
    rw [e]
    exact q
theorem comp_filter (p : α → Bool) {as : List α} (hok : ok h) (hl : as.length ≤ 16777216) (hs : ∀ a ∈ as, ∀ (acc : List MV) (K : List MV → MHp → Prop), acc.length < sizeLine → K (if p a = true then acc ++ [ea a] else acc) h → g (ea a) s0 h (fun s1 h1 => t s1 h1 (fun b h2 => if b = true then elt s1 h2 (fun v h3 => acc.length < sizeLine ∧ K (acc ++ [v]) h3) NoE else K acc h2) NoE) NoE)
    (q : Q ((as.filter p).map ea) h) : compM ok g t elt s0 (as.map ea) [] h Q :=
  comp_filter_map (eb := ea) p id hok hl hs (by rw [List.map_id]; exact q)
theorem comp2_bind {mi1 : MI} {g1 : MG} {t1 : MT} {vs1 : List Nat} (f : α → List β) (hok : ok h) : ∀ (as : List α) (acc : List MV), acc.length + (as.flatMap f).length ≤ 16777216 →
    (∀ a ∈ as, ∀ (acc : List MV) (K : List MV → MHp → Prop), acc.length + (f a).length ≤ 16777216 → K (acc ++ (f a).map eb) h → g (ea a) s0 h (fun s1 h1 => t s1 h1 (fun b h2 => if b = true then mi1 s1 h2 (fun ys ok1 h3 => compM ok1 g1 t1 elt (wipeM s1 vs1) ys acc h3 K) NoE else K acc h2) NoE) NoE) →
    Q (acc ++ (as.flatMap f).map eb) h → compM2 ok g t mi1 g1 t1 elt s0 vs1 (as.map ea) acc h Q
  | [], acc, _, _, q => ⟨hok, by simpa using q⟩
  | a :: as, acc, hl, hs, q => by
    rw [List.flatMap_cons, List.length_append] at hl
    refine ⟨hok, hs a List.mem_cons_self acc (fun acc2 h2 => compM2 ok g t mi1 g1 t1 elt s0 vs1 (as.map ea) acc2 h2 Q) (by omega) ?_⟩
    refine comp2_bind f hok as _ (by rw [List.length_append, List.length_map]; omega) (fun y hy => hs y (List.mem_cons_of_mem _ hy)) ?_
    rw [List.append_assoc, ← List.map_append]
    exact q
end
theorem for_listT {α : Type} {ea : α → MV} {ok : MHp → Prop} {g : MG} {b : MS} {D : MD} (I : List α → MSt → MHp → Prop) (hok : ∀ xs s h, I xs s h → ok h) (hend : ∀ s h, I [] s h → D.nx s h)
    (hstep : ∀ x xs s h K, I (x :: xs) s h → (∀ s2 h2, I xs s2 h2 → K s2 h2) → g (ea x) s h (fun s1 h1 => b s1 h1 { D with nx := K, ct := K, bk := D.nx }) (fun e h' => D.ex e s h')) : ∀ xs s h, I xs s h → forM ok g b (xs.map ea) s h D
  | [], s, h, i => ⟨hok _ _ _ i, hend s h i⟩
  | x :: xs, s, h, i => ⟨hok _ _ _ i, hstep x xs s h _ i fun s2 h2 i2 => for_listT I hok hend hstep xs s2 h2 i2⟩
theorem for_all {α : Type} {ea : α → MV} {ok : MHp → Prop} {g : MG} {b : MS} {D : MD} (P : α → Bool) (S : MSt → Prop) {h : MHp} {as : List α} {s : MSt} (hok : ok h) (hs : S s) (hnx : as.all P = true → ∀ s', S s' → D.nx s' h)
    (hst : ∀ a ∈ as, ∀ (s' : MSt) (K : MSt → MHp → Prop), S s' → (P a = true → ∀ s2, S s2 → K s2 h) → (P a = false → as.all P = false) → g (ea a) s' h (fun s1 h1 => b s1 h1 { D with nx := K, ct := K, bk := D.nx }) (fun e h' => D.ex e s' h')) : forM ok g b (as.map ea) s h D := by
  refine for_listT (ea := ea) (fun rest s' h' => h' = h ∧ S s' ∧ (∀ a ∈ rest, a ∈ as) ∧ rest.all P = as.all P) (fun _ _ _ i => i.1 ▸ hok) (fun s' h' ⟨e, i, _, r⟩ => e ▸ hnx (r ▸ rfl) s' i) (fun a rest s' h' K ⟨e, i, hm, r⟩ hK => ?_) as s h ⟨rfl, hs, fun _ h => h, rfl⟩
  subst e
  rw [List.all_cons] at r
  refine hst a (hm a List.mem_cons_self) s' K i (fun hp s2 i2 => hK s2 h' ⟨rfl, i2, fun x hx => hm x (List.mem_cons_of_mem _ hx), ?_⟩) fun hp => ?_
  · rw [hp, Bool.true_and] at r; exact r
  · rw [hp, Bool.false_and] at r; exact r.symm
def enumT {α : Type} (ea : α → MV) (p : α × Nat) : MV := .tup [.int (p.2 : Nat), ea p.1]
theorem enumL_map {α : Type} {ea : α → MV} {as : List α} : enumL (as.map ea) = as.zipIdx.map (enumT ea) := by
  unfold enumL
  rw [List.zipIdx_map, List.map_map] <;> rfl
theorem ixT0 {a : MV} {xs : List MV} {h : MHp} {Q : MQ} : ixM (.tup (a :: xs)) (.int 0) h Q ↔ Q a h := by
  show (∃ x, atI (a :: xs) 0 = some x ∧ Q x h) ↔ _
  simp only [atI0, Option.some.injEq, exists_eq_left']
theorem ixT1 {a b : MV} {xs : List MV} {h : MHp} {Q : MQ} : ixM (.tup (a :: b :: xs)) (.int 1) h Q ↔ Q b h := by
  show (∃ x, atI (a :: b :: xs) 1 = some x ∧ Q x h) ↔ _
  simp only [atI1, Option.some.injEq, exists_eq_left']
theorem ixT2 {a b c : MV} {xs : List MV} {h : MHp} {Q : MQ} : ixM (.tup (a :: b :: c :: xs)) (.int 2) h Q ↔ Q c h := by
  show (∃ x, atI (a :: b :: c :: xs) 2 = some x ∧ Q x h) ↔ _
  simp only [atI2, Option.some.injEq, exists_eq_left']
theorem ixF0 {a : MV} {xs : List MV} {h : MHp} {Q : MQ} : ixM (.fl (a :: xs)) (.int 0) h Q ↔ Q a h := by
  show (∃ x, atI (a :: xs) 0 = some x ∧ Q x h) ↔ _
  simp only [atI0, Option.some.injEq, exists_eq_left']
theorem ixF1 {a b : MV} {xs : List MV} {h : MHp} {Q : MQ} : ixM (.fl (a :: b :: xs)) (.int 1) h Q ↔ Q b h := by
  show (∃ x, atI (a :: b :: xs) 1 = some x ∧ Q x h) ↔ _
  simp only [atI1, Option.some.injEq, exists_eq_left']
theorem ixF2 {a b c : MV} {xs : List MV} {h : MHp} {Q : MQ} : ixM (.fl (a :: b :: c :: xs)) (.int 2) h Q ↔ Q c h := by
  show (∃ x, atI (a :: b :: c :: xs) 2 = some x ∧ Q x h) ↔ _
  simp only [atI2, Option.some.injEq, exists_eq_left']
abbrev Hh (h : MHp) : Prop := oldOk h.length h = true
theorem fin_sok {h : MHp} (hh : Hh h) {Q : MQ} {x : MV} (hx : x.sok = true) (q : Q x h) : mdF h.length Q x h := by
  have := mdF_sok (u := []) rfl hh hx q
  rwa [List.append_nil] at this
theorem fin_bl {h : MHp} (hh : Hh h) {Q : MQ} {b : Bool} (q : Q (.bl b) h) : mdF h.length Q (.bl b) h := fin_sok hh rfl q
theorem fin_non {h : MHp} (hh : Hh h) {Q : MQ} (q : Q .non h) : mdF h.length Q .non h := fin_sok hh rfl q
mutual
theorem lo_mono {n m : Nat} (h : n ≤ m) : ∀ v : MV, v.lo n = true → v.lo m = true
  | .non, _ => rfl
  | .bl _, _ => rfl
  | .int _, _ => rfl
  | .str _, _ => rfl
  | .tup xs, l => loAll_mono h xs (by simpa [MV.lo] using l)
  | .fl xs, l => loAll_mono h xs (by simpa [MV.lo] using l)
  | .sc xs, l => loAll_mono h xs (by simpa [MV.lo] using l)
  | .fd ks vs, l => by
    simp only [MV.lo, Bool.and_eq_true] at l ⊢
    exact ⟨loAll_mono h ks l.1, loAll_mono h vs l.2⟩
  | .fs xs, l => loAll_mono h xs (by simpa [MV.lo] using l)
  | .fi _ vs, l => loAll_mono h vs (by simpa [MV.lo] using l)
  | .ex _ vs, l => loAll_mono h vs (by simpa [MV.lo] using l)
  | .ref i, l => by
    simp only [MV.lo, decide_eq_true_eq] at l ⊢
    omega
theorem loAll_mono {n m : Nat} (h : n ≤ m) : ∀ xs : List MV, loAll n xs = true → loAll m xs = true
  | [], _ => rfl
  | x :: xs, l => by
    simp only [loAll, Bool.and_eq_true] at l ⊢
    exact ⟨lo_mono h x l.1, loAll_mono h xs l.2⟩
end
theorem cell_lo_mono {n m : Nat} (h : n ≤ m) (c : Cell) (l : c.lo n = true) : c.lo m = true := by
  cases c with
  | lst xs => exact loAll_mono h xs l
  | dct ep ks vs =>
    simp only [Cell.lo, Bool.and_eq_true] at l ⊢
    exact ⟨loAll_mono h ks l.1, loAll_mono h vs l.2⟩
  | st xs => exact loAll_mono h xs l
  | ins c vs => exact loAll_mono h vs l
theorem hh_iff {h : MHp} : Hh h ↔ ∀ c ∈ h, c.lo h.length = true := by
  show (h.take h.length).all (fun c => c.lo h.length) = true ↔ _
  rw [List.take_of_length_le (Nat.le_refl _), List.all_eq_true]
theorem hh_snoc {h : MHp} (hh : Hh h) {c : Cell} (hc : c.lo h.length = true) : Hh (h ++ [c]) := hh_iff.mpr fun d hd => by
  have hl : h.length ≤ (h ++ [c]).length := by rw [List.length_append]; omega
  rcases List.mem_append.mp hd with hd | hd
  · exact cell_lo_mono hl d (hh_iff.mp hh d hd)
  · rw [List.mem_singleton.mp hd]; exact cell_lo_mono hl c hc
theorem hh_lst {h : MHp} (hh : Hh h) {xs : List MV} (hx : sokAll xs = true) : Hh (h ++ [.lst xs]) := hh_snoc hh (loAll_sok _ xs hx)
theorem sok_map {α : Type} {ea : α → MV} {as : List α} (h : ∀ a, (ea a).sok = true) : sokAll (as.map ea) = true := sokAll_iff.mpr fun x hx => by
  obtain ⟨a, _, rfl⟩ := List.mem_map.mp hx
  exact h a
theorem sok_ints (ns : List Int) : sokAll (ns.map MV.int) = true := sok_map fun _ => rfl
theorem getK1 {h : MHp} {c d : Cell} : (h ++ [c, d])[h.length]? = some c := by simp
theorem getK2 {h : MHp} {c d : Cell} : (h ++ [c, d])[h.length + 1]? = some d := by simp
theorem setK1 {h : MHp} {c d e : Cell} : (h ++ [c, d]).set h.length e = h ++ [e, d] := by simp
theorem setK2 {h : MHp} {c d e : Cell} : (h ++ [c, d]).set (h.length + 1) e = h ++ [c, e] := by simp
theorem isN_non : isNoneM .non = true := rfl
theorem isN_tup {xs : List MV} : isNoneM (.tup xs) = false := rfl
theorem isN_fl {xs : List MV} : isNoneM (.fl xs) = false := rfl
theorem isN_ref {n : Nat} : isNoneM (.ref n) = false := rfl
theorem isN_int {i : Int} : isNoneM (.int i) = false := rfl
theorem isN_bl {b : Bool} : isNoneM (.bl b) = false := rfl
theorem isN_str {b : Str} : isNoneM (.str b) = false := rfl
end Mini
namespace Lw
open PySem PySem.Spec PyProof.Rows L2 Mini

def b__law_open : MS :=
    (mSeq (mAsg (mB listMC (aCons (mSl slM (mVar 0) pNo (pAt (mInt 12))) aNil)) (gN 1))
    (mSeq (mFor (iEnum (aCons (mSl slM (mVar 0) (pAt (mInt 12)) (pAt (mInt 63))) aNil)) (gT (gsCons (gN 2) (gsCons (gN 3) gsNil)) 2) (mAsg (mOp2 plusM (mOp2 ixM (mVar 1) (mOp2 modM (mB intM (aCons (mVar 2) aNil)) (mInt 12))) (mVar 3)) (gIx (mVar 1) (mOp2 modM (mB intM (aCons (mVar 2) aNil)) (mInt 12)))))
    (mRet (mLstC (aCons (mVar 1) (aCons (mInt 0) (aCons (mInt 0) aNil)))))))
def f__law_open : Sem := mFn mdK mdK 1 4 b__law_open
def b__law_spread : MS :=
    (mSeq (mIf (tV (mOp2 geM (mVar 0) (mOp2 powM (mInt 10) (mInt 18)))) (mRet (mVar 0)) mNext)
    (mSeq (mAsg (mLst (aCons (mInt 2147483629) (aCons (mInt 2147483587) (aCons (mInt 2147483579) (aCons (mInt 2147483563) (aCons (mInt 2147483549) (aCons (mInt 2147483543) (aCons (mInt 2147483497) aNil)))))))) (gN 2))
    (mSeq (mAsg (mOp2 plusM (mVar 2) (mLst (aCons (mInt 2147483489) (aCons (mInt 2147483477) (aCons (mInt 2147483423) (aCons (mInt 2147483399) (aCons (mInt 2147483353) (aCons (mInt 2147483323) aNil)))))))) (gN 2))
    (mSeq (mAsg (mOp2 plusM (mOp2 plusM (mOp2 mulM2 (mOp2 modM (mB intM (aCons (mVar 0) aNil)) (mInt 1000000007)) (mOp2 plusM (mOp2 mulM2 (mInt 2) (mVar 1)) (mInt 69069))) (mOp2 mulM2 (mVar 1) (mInt 40503))) (mInt 977)) (gN 3))
    (mSeq (mAsg (mOp2 modM (mB intM (aCons (mOp2 powM (mVar 3) (mInt 3)) aNil)) (mOp2 ixM (mVar 2) (mOp2 modM (mB intM (aCons (mVar 1) aNil)) (mInt 13)))) (gN 4))
    (mSeq (mAsg (mOp2 plusM (mOp2 modM (mB intM (aCons (mVar 0) aNil)) (mInt 65537)) (mInt 5)) (gN 5))
    (mSeq (mAsg (mOp2 modM (mB intM (aCons (mOp2 powM (mOp2 plusM (mOp2 mulM2 (mVar 4) (mOp2 plusM (mVar 1) (mInt 3))) (mVar 5)) (mInt 5)) aNil)) (mOp2 ixM (mVar 2) (mOp2 modM (mB intM (aCons (mOp2 plusM (mVar 1) (mInt 5)) aNil)) (mInt 13)))) (gN 6))
    (mSeq (mAsg (mOp2 modM (mB intM (aCons (mOp2 powM (mOp2 plusM (mOp2 plusM (mVar 6) (mOp2 modM (mB intM (aCons (mVar 4) aNil)) (mInt 1009))) (mVar 1)) (mInt 3)) aNil)) (mOp2 ixM (mVar 2) (mOp2 modM (mB intM (aCons (mOp2 plusM (mVar 1) (mInt 7)) aNil)) (mInt 13)))) (gN 7))
    (mRet (mOp2 plusM (mOp2 mulM2 (mOp2 plusM (mOp2 mulM2 (mVar 4) (mInt 2147483647)) (mVar 6)) (mInt 2147483647)) (mVar 7)))))))))))
def f__law_spread : Sem := mFn mdF mdD 2 8 b__law_spread
def b__law_take : MS :=
    (mSeq (mIf (tV (mOp2 ltM (mOp2 ixM (mVar 0) (mInt 2)) (mVar 1))) (mSeq (mAsg (mOp2 ixM (mVar 0) (mInt 1)) (gN 3))
    (mSeq (mAsg (mInt 0) (gN 4))
    (mSeq (mIf (tV (mOp2 ltM (mVar 3) (mB lenM (aCons (mOp2 ixM (mVar 0) (mInt 0)) aNil)))) (mAsg (mOp2 ixM (mOp2 ixM (mVar 0) (mInt 0)) (mVar 3)) (gN 4)) (mIf (tV (mOp2 gtM (mB lenM (aCons (mOp2 ixM (mVar 0) (mInt 0)) aNil)) (mInt 0))) (mAsg (mOp2 modM (mB intM (aCons (mOp2 ixM (mOp2 ixM (mVar 0) (mInt 0)) (mOp2 modM (mB intM (aCons (mOp2 plusM (mOp2 mulM2 (mVar 3) (mInt 5)) (mInt 3)) aNil)) (mB lenM (aCons (mOp2 ixM (mVar 0) (mInt 0)) aNil)))) aNil)) (mOp2 plusM (mOp2 powM (mInt 10) (mInt 17)) (mVar 3))) (gN 4)) mNext))
    (mSeq (mAsg (mOp2 plusM (mVar 3) (mInt 1)) (gIx (mVar 0) (mInt 1)))
    (mAsg (mCall f__law_spread (aCons (mVar 4) (aCons (mVar 3) aNil))) (gIx (mVar 0) (mInt 2))))))) mNext)
    (mSeq (mAsg (mOp2 modM (mB intM (aCons (mOp2 ixM (mVar 0) (mInt 2)) aNil)) (mVar 1)) (gN 2))
    (mSeq (mAsg (mOp2 fdivM (mOp2 ixM (mVar 0) (mInt 2)) (mVar 1)) (gIx (mVar 0) (mInt 2)))
    (mRet (mVar 2)))))
def f__law_take : Sem := mFn mdF mdD 2 5 b__law_take
def b__law_one : MS :=
    (mRet (mOp2 ixM (mVar 1) (mCall f__law_take (aCons (mVar 0) (aCons (mB lenM (aCons (mVar 1) aNil)) aNil)))))
def f__law_one : Sem := mFn mdF mdD 2 2 b__law_one
def b__law_anew : MS :=
    (mSeq (mAsg (mInt 0) (gIx (mVar 0) (mInt 2)))
    (mRet (mVar 0)))
def f__law_anew : Sem := mFn mdF mdD 1 1 b__law_anew
end Lw
namespace Lw
open PySem PySem.Spec PyProof.Rows L2 Mini

def b_is_ascending : MS :=
    (mRet (mOp2 eqM (mB listM (aCons (mVar 0) aNil)) (mB sortSetM (aCons (mB setM (aCons (mVar 0) aNil)) aNil))))
def f_is_ascending : Sem := mFn mdF mdD 1 1 b_is_ascending
def b_is_integer : MS :=
    (mRet (mAnd (mIsi "int" (mVar 0)) (mNot (mIsi "bool" (mVar 0)))))
def f_is_integer : Sem := mFn mdF mdD 1 1 b_is_integer
def b_is_between : MS :=
    (mRet (mAnd (mCall f_is_integer (aCons (mVar 0) aNil)) (mChain leM leM (mVar 1) (mVar 0) (mVar 2))))
def f_is_between : Sem := mFn mdF mdD 3 3 b_is_between
def b_are_endless_sizes : MS :=
    (mSeq (mIf (tOr (tNo (tV (mIsi "tuple" (mVar 0)))) (tNo (tV (mChain leM leM (mInt 1) (mB lenM (aCons (mVar 0) aNil)) (mInt 4))))) (mRet (mBl false)) mNext)
    (mRet (mB allM (aCons (mLc (iSeq (mVar 0)) (gN 1) tAll (mCall f_is_between (aCons (mVar 1) (aCons (mInt 1) (aCons (mInt 4) aNil)))) [1]) aNil))))
def f_are_endless_sizes : Sem := mFn mdF mdD 1 2 b_are_endless_sizes
def b_is_job_in : MS :=
    (mSeq (mIf (tOr (tNo (tV (mIsi "tuple" (mVar 1)))) (tOr (tV (mOp2 neM (mB lenM (aCons (mVar 1) aNil)) (mInt 2))) (tNo (tV (mCall f_is_between (aCons (mOp2 ixM (mVar 1) (mInt 0)) (aCons (mInt 0) (aCons (mOp2 subM (mB lenM (aCons (mVar 0) aNil)) (mInt 1)) aNil)))))))) (mRet (mBl false)) mNext)
    (mRet (mCall f_is_between (aCons (mOp2 ixM (mVar 1) (mInt 1)) (aCons (mInt 0) (aCons (mOp2 subM (mOp2 ixM (mVar 0) (mOp2 ixM (mVar 1) (mInt 0))) (mInt 1)) aNil))))))
def f_is_job_in : Sem := mFn mdF mdD 2 2 b_is_job_in
def b_is_linked_wait : MS :=
    (mSeq (mIf (tOr (tNo (tV (mIsi "tuple" (mVar 1)))) (tOr (tV (mOp2 neM (mB lenM (aCons (mVar 1) aNil)) (mInt 3))) (tNo (tV (mCall f_is_job_in (aCons (mVar 0) (aCons (mOp2 ixM (mVar 1) (mInt 0)) aNil))))))) (mRet (mBl false)) mNext)
    (mSeq (mIf (tOr (tNo (tV (mCall f_is_job_in (aCons (mVar 0) (aCons (mOp2 ixM (mVar 1) (mInt 1)) aNil))))) (tV (mOp2 eqM (mOp2 ixM (mOp2 ixM (mVar 1) (mInt 0)) (mInt 0)) (mOp2 ixM (mOp2 ixM (mVar 1) (mInt 1)) (mInt 0))))) (mRet (mBl false)) mNext)
    (mRet (mCall f_is_between (aCons (mOp2 ixM (mVar 1) (mInt 2)) (aCons (mInt 0) (aCons (mInt 3) aNil)))))))
def f_is_linked_wait : Sem := mFn mdF mdD 2 2 b_is_linked_wait
def b_is_endless_plan : MS :=
    (mSeq (mIf (tOr (tNo (tV (mIsi "tuple" (mVar 0)))) (tOr (tV (mOp2 neM (mB lenM (aCons (mVar 0) aNil)) (mInt 2))) (tNo (tV (mCall f_are_endless_sizes (aCons (mOp2 ixM (mVar 0) (mInt 0)) aNil)))))) (mRet (mBl false)) mNext)
    (mSeq (mIf (tOr (tNo (tV (mIsi "tuple" (mOp2 ixM (mVar 0) (mInt 1))))) (tV (mOp2 gtM (mB lenM (aCons (mOp2 ixM (mVar 0) (mInt 1)) aNil)) (mInt 12)))) (mRet (mBl false)) mNext)
    (mRet (mAnd (mB allM (aCons (mLc (iSeq (mOp2 ixM (mVar 0) (mInt 1))) (gN 1) tAll (mCall f_is_linked_wait (aCons (mOp2 ixM (mVar 0) (mInt 0)) (aCons (mVar 1) aNil))) [1]) aNil)) (mCall f_is_ascending (aCons (mOp2 ixM (mVar 0) (mInt 1)) aNil))))))
def f_is_endless_plan : Sem := mFn mdF mdD 1 2 b_is_endless_plan
def b_require_endless : MS :=
    (mIf (tNo (tV (mCall f_is_endless_plan (aCons (mVar 0) aNil)))) mNo mNext)
def f_require_endless : Sem := mFn mdF mdD 1 1 b_require_endless
def b_list_jobs : MS :=
    (mRet (mLc2 (iEnum (aCons (mOp2 ixM (mVar 0) (mInt 0)) aNil)) (gT (gsCons (gN 2) (gsCons (gN 3) gsNil)) 2) tAll (iRng1 (aCons (mVar 3) aNil)) (gN 1) tAll (mTup (aCons (mVar 2) (aCons (mVar 1) aNil))) [2, 3, 1] [1]))
def f_list_jobs : Sem := mFn mdF mdD 1 4 b_list_jobs
def b_find_links : MS :=
    (mSeq (mAsg (mB listMC (aCons (mOp2 ixM (mVar 0) (mInt 1)) aNil)) (gN 1))
    (mSeq (mFor (iEnum (aCons (mOp2 ixM (mVar 0) (mInt 0)) aNil)) (gT (gsCons (gN 2) (gsCons (gN 3) gsNil)) 2) (mSeq (mDrop (mMt extendM (mVar 1) (aCons (mLc (iRng1 (aCons (mOp2 subM (mVar 3) (mInt 1)) aNil)) (gN 4) tAll (mTup (aCons (mTup (aCons (mVar 2) (aCons (mVar 4) aNil))) (aCons (mTup (aCons (mVar 2) (aCons (mOp2 plusM (mVar 4) (mInt 1)) aNil))) (aCons (mInt 0) aNil)))) [4]) aNil)))
    (mDrop (mMt appendM (mVar 1) (aCons (mTup (aCons (mTup (aCons (mVar 2) (aCons (mOp2 subM (mVar 3) (mInt 1)) aNil))) (aCons (mTup (aCons (mVar 2) (aCons (mInt 0) aNil))) (aCons (mInt 1) aNil)))) aNil)))))
    (mRet (mB sortMC (aCons (mVar 1) aNil)))))
def f_find_links : Sem := mFn mdC mdD 1 5 b_find_links
def b_find_zero : MS :=
    (mSeq (mAsg (mLc (iSeq (mCall f_find_links (aCons (mVar 0) aNil))) (gN 7) (tV (mOp2 eqM (mOp2 ixM (mVar 7) (mInt 2)) (mInt 0))) (mVar 7) [7]) (gN 1))
    (mSeq (mAsg (mCall f_list_jobs (aCons (mVar 0) aNil)) (gN 2))
    (mSeq (mAsg (mBl true) (gN 3))
    (mSeq (mWhile (tV (mVar 3)) (mSeq (mAsg (mLc (iSeq (mVar 2)) (gN 8) (tV (mB anyM (aCons (mLc (iSeq (mVar 1)) (gN 7) tAll (mAnd (mOp2 eqM (mOp2 ixM (mVar 7) (mInt 0)) (mVar 8)) (mOp2 inSeqM (mOp2 ixM (mVar 7) (mInt 1)) (mVar 2))) [7]) aNil))) (mVar 8) [8]) (gN 4))
    (mAsg (mTup (aCons (mOp2 ltM (mB lenM (aCons (mVar 4) aNil)) (mB lenM (aCons (mVar 2) aNil))) (aCons (mVar 4) aNil))) (gT (gsCons (gN 3) (gsCons (gN 2) gsNil)) 2))))
    (mSeq (mIf (tV (mOp2 eqM (mVar 2) (mLst aNil))) (mRet mNon) mNext)
    (mSeq (mAsg (mTup (aCons (mLstC (aCons (mOp2 ixM (mVar 2) (mInt 0)) aNil)) (aCons (mLstC aNil) aNil))) (gT (gsCons (gN 5) (gsCons (gN 6) gsNil)) 2))
    (mSeq (mWhile (tV (mOp2 ltM (mB lenM (aCons (mVar 6) aNil)) (mB lenM (aCons (mVar 5) aNil)))) (mSeq (mAsg (mOp2 ixM (mLc (iSeq (mVar 1)) (gN 9) (tAn (tV (mOp2 eqM (mOp2 ixM (mVar 9) (mInt 0)) (mOp2 ixM (mVar 5) (mOp1 negM (mInt 1))))) (tV (mOp2 inSeqM (mOp2 ixM (mVar 9) (mInt 1)) (mVar 2)))) (mVar 9) [9]) (mInt 0)) (gN 7))
    (mSeq (mDrop (mMt appendM (mVar 6) (aCons (mVar 7) aNil)))
    (mIf (tV (mOp2 notInSeqM (mOp2 ixM (mVar 7) (mInt 1)) (mVar 5))) (mDrop (mMt appendM (mVar 5) (aCons (mOp2 ixM (mVar 7) (mInt 1)) aNil))) mNext))))
    (mRet (mSl slM (mVar 6) (pAt (mMt indexM (mVar 5) (aCons (mOp2 ixM (mOp2 ixM (mVar 6) (mOp1 negM (mInt 1))) (mInt 1)) aNil))) pNo)))))))))
def f_find_zero : Sem := mFn mdF mdD 1 10 b_find_zero
def b_require_lasting : MS :=
    (mSeq (mDrop (mCall f_require_endless (aCons (mVar 0) aNil)))
    (mSeq (mAsg (mCall f_find_zero (aCons (mVar 0) aNil)) (gN 1))
    (mIf (tV (mOp2 isNotM2 (mVar 1) mNon)) mNo mNext)))
def f_require_lasting : Sem := mFn mdF mdD 1 2 b_require_lasting
end Lw
namespace Lw
open PySem PySem.Spec PyProof.Rows L2 Mini

end Lw
namespace Lw
open PySem PySem.Spec PyProof.Rows L2 Mini

def b_is_wait_of_endless : MS :=
    (mRet (mAnd (mCall f_is_linked_wait (aCons (mOp2 ixM (mVar 0) (mInt 0)) (aCons (mVar 1) aNil))) (mOp2 inSeqM (mVar 1) (mOp2 ixM (mVar 0) (mInt 1)))))
def f_is_wait_of_endless : Sem := mFn mdF mdD 2 2 b_is_wait_of_endless
end Lw
namespace Mini
open PySem PySem.Spec PyProof.Rows L2
def gL (r : MGs) (n : Nat) : MG := fun v s h Q E => ∃ vs, lstOf h v = some vs ∧ vs.length = n ∧ r vs s h Q E
end Mini
namespace Mini
open PySem PySem.Spec PyProof.Rows L2

structure XRow (K : PySem.W.Frag) (cls : Nat → Addr) (c : Nat) : Prop where
  mro : ∃ cd, PySem.W.clsIn K (cls c) = some cd ∧ cd.mro = .ref (cls c) :: (if c = 0 then He.veBase else .ref (cls 0) :: He.veBase)
  ty : PySem.W.typeIn K (.ref (cls c)) = some (.type "type")
  ec : ExcC K (cls c)
structure XT (K : PySem.W.Frag) (cls : Nat → Addr) (has : List Nat) : Prop where
  zero : 0 ∈ has
  inj : ∀ i ∈ has, ∀ j ∈ has, cls i = cls j → i = j
  row : ∀ i ∈ has, XRow K cls i
def subX (c j : Nat) : Bool := c == j || j == 0
section
variable {K : PySem.W.Frag} {cls : Nat → Addr} {has : List Nat} {c j : Nat}
theorem XRow.subIn (r : XRow K cls c) (v : Value) : PySem.W.subIn K (.ref (cls c)) v = some ((.ref (cls c) :: (if c = 0 then He.veBase else .ref (cls 0) :: He.veBase) : List Value).contains v) := by
  obtain ⟨cd, e, m⟩ := r.mro
  show PySem.W.mroIn K (cls c) v = _
  unfold PySem.W.mroIn
  rw [e, Option.bind_some, m]
  rfl
theorem has_ref (a b : Addr) : ((Value.ref a == Value.ref b) : Bool) = decide (a = b) := by
  by_cases h : a = b
  · subst h; simp
  · rw [decide_eq_false h]
    exact beq_false_of_ne fun z => h (Value.ref.inj z)
theorem ve_no (a : Addr) : He.veBase.contains (Value.ref a) = false := by
  rfl
theorem XT.sub (t : XT K cls has) (hc : c ∈ has) (hj : j ∈ has) : PySem.W.subIn K (.ref (cls c)) (.ref (cls j)) = some (subX c j) := by
  rw [(t.row c hc).subIn]
  congr 1
  have e1 : ∀ i ∈ has, (decide (cls j = cls i)) = (j == i) := fun i hi => by
    by_cases h : j = i
    · subst h; simp
    · rw [decide_eq_false fun z => h (t.inj j hj i hi z), beq_false_of_ne h]
  unfold subX
  by_cases h0 : c = 0
  · subst h0
    rw [if_pos rfl, List.contains_cons, has_ref, e1 0 t.zero, ve_no, Bool.or_false]
    cases j <;> rfl
  · rw [if_neg h0, List.contains_cons, List.contains_cons, has_ref, has_ref, e1 c hc, e1 0 t.zero, ve_no, Bool.or_false]
    by_cases h : j = c
    · subst h; simp
    · rw [beq_false_of_ne h, beq_false_of_ne (Ne.symm h)]
end

section
open PySem.W PySem.Calls
variable {prog : Program} {w : World} {A : Around} {E : Value → Shared → Prop} {s : Shared} {K : Frag} {x D : Addr} {ox : Obj} {od : Option Obj}
end
section
variable {X : Cx} {pins : List (Addr × Obj)} {σ : L2.St} {H : Hp} {s : Shared} {a C : Addr} {d : Option Addr}
end
def isXM (has : List Nat) (j : Nat) (v : MV) (h : MHp) (Q : MQ) : Prop := ∃ c xs, v = .ex c xs ∧ c ∈ has ∧ Q (.bl (subX c j)) h
def isVEM (has : List Nat) (v : MV) (h : MHp) (Q : MQ) : Prop := ∃ c xs, v = .ex c xs ∧ c ∈ has ∧ Q (.bl true) h
def mIsX (has : List Nat) (j : Nat) (a : ME) : ME := mOp1 (isXM has j) a
def mIsVE (has : List Nat) (a : ME) : ME := mOp1 (isVEM has) a
section
variable {Y : Lay} {W : WX} {X : Cx}
end

def mRaise (c : Nat) (a : ME) : MS := fun s h D => a s h (fun _ h1 => D.ex (.ex c []) s h1) (fun e h' => D.ex e s h')
section
variable {Y : Lay} {W : WX} {X : Cx}
end
end Mini
namespace Mini
open PySem PySem.Spec PyProof.Rows L2

section
variable {X : Cx} {pins : List (Addr × Obj)} {σ : L2.St} {H : Hp} {s sI : Shared} {a C : Addr} {d : Option Addr}
end

def mTry (has : List Nat) (j i : Nat) (m ms : MS) : MS := fun s h D => m s h { D with ex := fun e s' h' => ∃ c xs, e = .ex c xs ∧ c ∈ has ∧ (if subX c j = true then ms (s'.set i (some e)) h' { nx := fun s2 h2 => D.nx (s2.set i none) h2, rt := D.rt, bk := fun s2 h2 => D.bk (s2.set i none) h2, ct := fun s2 h2 => D.ct (s2.set i none) h2, ex := fun _ _ _ => False } else D.ex e s' h') }
section
variable {Y : Lay} {W : WX} {X : Cx}
end
end Mini
namespace Mini
open PySem PySem.Spec PyProof.Rows L2

def xAt (K : PySem.W.Frag) (xs : List Str) (i : Nat) : Addr := He.ga K (xs.getD i Str.empty)
end Mini
namespace Lw
open PySem PySem.Spec PyProof.Rows L2 Mini

end Lw
namespace Lw
open PySem PySem.Spec PyProof.Rows L2 Mini

def b__law_jobs : MS :=
    (mSeq (mAsg (mLstC aNil) (gN 1))
    (mSeq (mFor (iEnum (aCons (mVar 0) aNil)) (gT (gsCons (gN 2) (gsCons (gN 3) gsNil)) 2) (mDrop (mMt extendM (mVar 1) (aCons (mLc (iRng1 (aCons (mVar 3) aNil)) (gN 4) tAll (mTup (aCons (mVar 2) (aCons (mVar 4) aNil))) [4]) aNil))))
    (mRet (mVar 1))))
def f__law_jobs : Sem := mFn mdF mdD 1 5 b__law_jobs
end Lw
namespace Mini
open PySem PySem.Spec PyProof.Rows L2 PySem.W
section
variable {Y : Lay} {W : WX} {X : Cx}
end
section
variable {Y : Lay} {W : WX} {X : Cx}
end
end Mini
namespace Mini
open PySem PySem.Spec PyProof.Rows L2
end Mini
namespace Mini
open PySem PySem.Spec PyProof.Rows L2
def mLc2C (mi : MI) (g : MG) (t : MT) (mi1 : MI) (g1 : MG) (t1 : MT) (elt : ME) (vs vs1 : List Nat) : ME := fun s h Q E => mi s h (fun xs ok h1 => compM2 ok g t mi1 g1 t1 elt (wipeM s vs) vs1 xs [] h1 (fun ys h2 => Q (.ref h2.length) (h2 ++ [Cell.lst ys]))) E
end Mini
namespace Mini
open PySem PySem.Spec PyProof.Rows L2
section
variable {prog : Program} {w : World} {A : Around} {E : Value → Shared → Prop} {s : Shared} {l : Addr}
end
section
variable {Y : Lay} {X : Cx}
def sumM2 (vs : List MV) (h : MHp) (Q : MQ) : Prop := ∃ v xs ns, vs = [v] ∧ seqOf h v = some xs ∧ intsOf xs = some ns ∧ Q (.int ns.sum) h
end
end Mini
namespace Mini
open PySem PySem.Spec PyProof.Rows L2
class Hold (α : Type) where
  val : α
theorem hold_val {α : Type} {x : α} : (Hold.mk x).val = x := rfl
def kb [b : Hold (MS)] (s : MSt) (h : MHp) [D : Hold (MD)] : Prop := b.val s h D.val
theorem kb_i {b : MS} {s : MSt} {h : MHp} {N : MSt → MHp → Prop} {R : MQ} {B C : MSt → MHp → Prop} {X : MV → MSt → MHp → Prop} (k : b s h ⟨N, R, B, C, X⟩) : @kb ⟨b⟩ s h ⟨⟨N, R, B, C, X⟩⟩ := k
def loop (ok : MHp → Prop) (g : MG) (b : MS) (xs : List MV) (s : MSt) (h : MHp) [D : Hold (MD)] : Prop := forM ok g b xs s h D.val
def whl (t : MT) (b : MS) (s : MSt) (h : MHp) [D : Hold (MD)] : Prop := mWhile t b s h D.val
def comp (ok : MHp → Prop) (g : MG) (t : MT) (elt : ME) (s : MSt) (xs : List MV) (acc : List MV) (h : MHp) [Q : Hold (List MV → MHp → Prop)] : Prop := compM ok g t elt s xs acc h Q.val
def comp2 (ok : MHp → Prop) (g : MG) (t : MT) (mi1 : MI) (g1 : MG) (t1 : MT) (elt : ME) (s : MSt) (vs1 : List Nat) (xs : List MV) (acc : List MV) (h : MHp) [Q : Hold (List MV → MHp → Prop)] : Prop := compM2 ok g t mi1 g1 t1 elt s vs1 xs acc h Q.val
abbrev call (f : Sem) (vs : List MV) (h : MHp) [Q : Hold (MQ)] [E : Hold (MQ)] : Prop := f vs h Q.val E.val
def o1 (op : MV → MHp → MQ → Prop) (v : MV) (h : MHp) [Q : Hold (MQ)] : Prop := op v h Q.val
def o2 (op : MV → MV → MHp → MQ → Prop) (v : MV) (u : MV) (h : MHp) [Q : Hold (MQ)] : Prop := op v u h Q.val
def oN (op : List MV → MHp → MQ → Prop) (vs : List MV) (h : MHp) [Q : Hold (MQ)] : Prop := op vs h Q.val
def withC (c : Option Cell) [k : Hold (List MV → Prop)] : Prop := match c with
  | some (.lst xs) => k.val xs
  | _ => False
theorem withC_l {xs : List MV} {k : List MV → Prop} : @withC (some (.lst xs)) ⟨k⟩ = k xs := rfl
def withV (c : Option MV) [k : Hold (MV → Prop)] : Prop := match c with
  | some x => k.val x
  | _ => False
theorem withV_s {x : MV} {k : MV → Prop} : @withV (some x) ⟨k⟩ = k x := rfl
def withN (c : Option Nat) [k : Hold (Nat → Prop)] : Prop := match c with
  | some x => k.val x
  | _ => False
theorem withN_s {x : Nat} {k : Nat → Prop} : @withN (some x) ⟨k⟩ = k x := rfl
theorem withC_of {c : Option Cell} {k : List MV → Prop} {P : Prop} (h1 : ∀ xs, c = some (.lst xs) → (P ↔ k xs)) (h2 : (∀ xs, c ≠ some (.lst xs)) → ¬ P) : P = @withC c ⟨k⟩ := by
  unfold withC
  split
  · exact propext (h1 _ rfl)
  · rename_i hn
    exact propext ⟨fun p => h2 (fun xs e => hn xs e) p, fun z => z.elim⟩
theorem lst_r {h : MHp} {n : Nat} {xs : List MV} (e : h[n]? = some (.lst xs)) : lstOf h (.ref n) = some xs := by simp [lstOf, e]
theorem lst_n {h : MHp} {n : Nat} (e : ∀ xs, h[n]? ≠ some (.lst xs)) : lstOf h (.ref n) = none := by
  unfold lstOf
  dsimp only
  split
  · exact absurd (by assumption) (e _)
  · rfl
theorem withC_rf {h : MHp} {n : Nat} {k : List MV → Prop} {P : Prop} (e : P ↔ ∃ xs, lstOf h (.ref n) = some xs ∧ k xs) : P = @withC h[n]? ⟨k⟩ :=
  withC_of (fun xs ex => e.trans ⟨fun ⟨ys, e1, q⟩ => by rw [lst_r ex] at e1; cases e1; exact q, fun q => ⟨xs, lst_r ex, q⟩⟩) fun hn p => by
    obtain ⟨ys, e1, _⟩ := e.mp p
    rw [lst_n hn] at e1; cases e1
def bV (v : MV) (h : MHp) [Q : Hold (Bool → MHp → Prop)] : Prop := ∃ b, v = .bl b ∧ Q.val b h
theorem bV_b {b : Bool} {h : MHp} {Q : Bool → MHp → Prop} : @bV (.bl b) h ⟨Q⟩ = Q b h := by
  refine propext ⟨fun ⟨c, e, q⟩ => ?_, fun q => ⟨b, rfl, q⟩⟩
  cases e; exact q
def iV (v : MV) (h : MHp) [Q : Hold (Int → MHp → Prop)] : Prop := ∃ b, v = .int b ∧ Q.val b h
theorem iV_i {b : Int} {h : MHp} {Q : Int → MHp → Prop} : @iV (.int b) h ⟨Q⟩ = Q b h := by
  refine propext ⟨fun ⟨c, e, q⟩ => ?_, fun q => ⟨b, rfl, q⟩⟩
  cases e; exact q
def okT (_ : MHp) : Prop := True
theorem okT_i {h : MHp} : okT h := trivial

theorem mC_at {v : MV} {s : MSt} {h : MHp} {Q E : MQ} : mC v s h Q E = Q v h := rfl
theorem mInt_at {i : Int} {s : MSt} {h : MHp} {Q E : MQ} : mInt i s h Q E = Q (.int i) h := rfl
theorem mBl_at {i : Bool} {s : MSt} {h : MHp} {Q E : MQ} : mBl i s h Q E = Q (.bl i) h := rfl
theorem mNon_at {s : MSt} {h : MHp} {Q E : MQ} : mNon s h Q E = Q .non h := rfl
theorem mStr_at {i : Str} {s : MSt} {h : MHp} {Q E : MQ} : mStr i s h Q E = Q (.str i) h := rfl
theorem mVar_ex {i : Nat} {s : MSt} {h : MHp} {Q E : MQ} {v : MV} (e : s[i]? = some (some v)) : mVar i s h Q E = Q v h := by
  refine propext ⟨fun ⟨w, e2, q⟩ => ?_, fun q => ⟨v, e, q⟩⟩
  rw [e] at e2; cases e2; exact q
theorem mVar0 {v : MV} {s : MSt} {h : MHp} {Q E : MQ} : mVar 0 (some v :: s) h Q E = Q v h := mVar_ex rfl
theorem mVar1 {x0 : Option MV} {v : MV} {s : MSt} {h : MHp} {Q E : MQ} : mVar 1 (x0 :: some v :: s) h Q E = Q v h := mVar_ex rfl
theorem mVar2 {x0 x1 : Option MV} {v : MV} {s : MSt} {h : MHp} {Q E : MQ} : mVar 2 (x0 :: x1 :: some v :: s) h Q E = Q v h := mVar_ex rfl
theorem mVar3 {x0 x1 x2 : Option MV} {v : MV} {s : MSt} {h : MHp} {Q E : MQ} : mVar 3 (x0 :: x1 :: x2 :: some v :: s) h Q E = Q v h := mVar_ex rfl
theorem mVar4 {x0 x1 x2 x3 : Option MV} {v : MV} {s : MSt} {h : MHp} {Q E : MQ} : mVar 4 (x0 :: x1 :: x2 :: x3 :: some v :: s) h Q E = Q v h := mVar_ex rfl
theorem mVar5 {x0 x1 x2 x3 x4 : Option MV} {v : MV} {s : MSt} {h : MHp} {Q E : MQ} : mVar 5 (x0 :: x1 :: x2 :: x3 :: x4 :: some v :: s) h Q E = Q v h := mVar_ex rfl
theorem mVar6 {x0 x1 x2 x3 x4 x5 : Option MV} {v : MV} {s : MSt} {h : MHp} {Q E : MQ} : mVar 6 (x0 :: x1 :: x2 :: x3 :: x4 :: x5 :: some v :: s) h Q E = Q v h := mVar_ex rfl
theorem mVar7 {x0 x1 x2 x3 x4 x5 x6 : Option MV} {v : MV} {s : MSt} {h : MHp} {Q E : MQ} : mVar 7 (x0 :: x1 :: x2 :: x3 :: x4 :: x5 :: x6 :: some v :: s) h Q E = Q v h := mVar_ex rfl
theorem mVar8 {x0 x1 x2 x3 x4 x5 x6 x7 : Option MV} {v : MV} {s : MSt} {h : MHp} {Q E : MQ} : mVar 8 (x0 :: x1 :: x2 :: x3 :: x4 :: x5 :: x6 :: x7 :: some v :: s) h Q E = Q v h := mVar_ex rfl
theorem mVar9 {x0 x1 x2 x3 x4 x5 x6 x7 x8 : Option MV} {v : MV} {s : MSt} {h : MHp} {Q E : MQ} : mVar 9 (x0 :: x1 :: x2 :: x3 :: x4 :: x5 :: x6 :: x7 :: x8 :: some v :: s) h Q E = Q v h := mVar_ex rfl
theorem mVar10 {x0 x1 x2 x3 x4 x5 x6 x7 x8 x9 : Option MV} {v : MV} {s : MSt} {h : MHp} {Q E : MQ} : mVar 10 (x0 :: x1 :: x2 :: x3 :: x4 :: x5 :: x6 :: x7 :: x8 :: x9 :: some v :: s) h Q E = Q v h := mVar_ex rfl
theorem mVar11 {x0 x1 x2 x3 x4 x5 x6 x7 x8 x9 x10 : Option MV} {v : MV} {s : MSt} {h : MHp} {Q E : MQ} : mVar 11 (x0 :: x1 :: x2 :: x3 :: x4 :: x5 :: x6 :: x7 :: x8 :: x9 :: x10 :: some v :: s) h Q E = Q v h := mVar_ex rfl
theorem mVar12 {x0 x1 x2 x3 x4 x5 x6 x7 x8 x9 x10 x11 : Option MV} {v : MV} {s : MSt} {h : MHp} {Q E : MQ} : mVar 12 (x0 :: x1 :: x2 :: x3 :: x4 :: x5 :: x6 :: x7 :: x8 :: x9 :: x10 :: x11 :: some v :: s) h Q E = Q v h := mVar_ex rfl
theorem mVar13 {x0 x1 x2 x3 x4 x5 x6 x7 x8 x9 x10 x11 x12 : Option MV} {v : MV} {s : MSt} {h : MHp} {Q E : MQ} : mVar 13 (x0 :: x1 :: x2 :: x3 :: x4 :: x5 :: x6 :: x7 :: x8 :: x9 :: x10 :: x11 :: x12 :: some v :: s) h Q E = Q v h := mVar_ex rfl
theorem mVar14 {x0 x1 x2 x3 x4 x5 x6 x7 x8 x9 x10 x11 x12 x13 : Option MV} {v : MV} {s : MSt} {h : MHp} {Q E : MQ} : mVar 14 (x0 :: x1 :: x2 :: x3 :: x4 :: x5 :: x6 :: x7 :: x8 :: x9 :: x10 :: x11 :: x12 :: x13 :: some v :: s) h Q E = Q v h := mVar_ex rfl
theorem mVar15 {x0 x1 x2 x3 x4 x5 x6 x7 x8 x9 x10 x11 x12 x13 x14 : Option MV} {v : MV} {s : MSt} {h : MHp} {Q E : MQ} : mVar 15 (x0 :: x1 :: x2 :: x3 :: x4 :: x5 :: x6 :: x7 :: x8 :: x9 :: x10 :: x11 :: x12 :: x13 :: x14 :: some v :: s) h Q E = Q v h := mVar_ex rfl
theorem mVar16 {x0 x1 x2 x3 x4 x5 x6 x7 x8 x9 x10 x11 x12 x13 x14 x15 : Option MV} {v : MV} {s : MSt} {h : MHp} {Q E : MQ} : mVar 16 (x0 :: x1 :: x2 :: x3 :: x4 :: x5 :: x6 :: x7 :: x8 :: x9 :: x10 :: x11 :: x12 :: x13 :: x14 :: x15 :: some v :: s) h Q E = Q v h := mVar_ex rfl
theorem mVar17 {x0 x1 x2 x3 x4 x5 x6 x7 x8 x9 x10 x11 x12 x13 x14 x15 x16 : Option MV} {v : MV} {s : MSt} {h : MHp} {Q E : MQ} : mVar 17 (x0 :: x1 :: x2 :: x3 :: x4 :: x5 :: x6 :: x7 :: x8 :: x9 :: x10 :: x11 :: x12 :: x13 :: x14 :: x15 :: x16 :: some v :: s) h Q E = Q v h := mVar_ex rfl
theorem mVar18 {x0 x1 x2 x3 x4 x5 x6 x7 x8 x9 x10 x11 x12 x13 x14 x15 x16 x17 : Option MV} {v : MV} {s : MSt} {h : MHp} {Q E : MQ} : mVar 18 (x0 :: x1 :: x2 :: x3 :: x4 :: x5 :: x6 :: x7 :: x8 :: x9 :: x10 :: x11 :: x12 :: x13 :: x14 :: x15 :: x16 :: x17 :: some v :: s) h Q E = Q v h := mVar_ex rfl
theorem mVar19 {x0 x1 x2 x3 x4 x5 x6 x7 x8 x9 x10 x11 x12 x13 x14 x15 x16 x17 x18 : Option MV} {v : MV} {s : MSt} {h : MHp} {Q E : MQ} : mVar 19 (x0 :: x1 :: x2 :: x3 :: x4 :: x5 :: x6 :: x7 :: x8 :: x9 :: x10 :: x11 :: x12 :: x13 :: x14 :: x15 :: x16 :: x17 :: x18 :: some v :: s) h Q E = Q v h := mVar_ex rfl
theorem mVar20 {x0 x1 x2 x3 x4 x5 x6 x7 x8 x9 x10 x11 x12 x13 x14 x15 x16 x17 x18 x19 : Option MV} {v : MV} {s : MSt} {h : MHp} {Q E : MQ} : mVar 20 (x0 :: x1 :: x2 :: x3 :: x4 :: x5 :: x6 :: x7 :: x8 :: x9 :: x10 :: x11 :: x12 :: x13 :: x14 :: x15 :: x16 :: x17 :: x18 :: x19 :: some v :: s) h Q E = Q v h := mVar_ex rfl
theorem mVar21 {x0 x1 x2 x3 x4 x5 x6 x7 x8 x9 x10 x11 x12 x13 x14 x15 x16 x17 x18 x19 x20 : Option MV} {v : MV} {s : MSt} {h : MHp} {Q E : MQ} : mVar 21 (x0 :: x1 :: x2 :: x3 :: x4 :: x5 :: x6 :: x7 :: x8 :: x9 :: x10 :: x11 :: x12 :: x13 :: x14 :: x15 :: x16 :: x17 :: x18 :: x19 :: x20 :: some v :: s) h Q E = Q v h := mVar_ex rfl
theorem mVar22 {x0 x1 x2 x3 x4 x5 x6 x7 x8 x9 x10 x11 x12 x13 x14 x15 x16 x17 x18 x19 x20 x21 : Option MV} {v : MV} {s : MSt} {h : MHp} {Q E : MQ} : mVar 22 (x0 :: x1 :: x2 :: x3 :: x4 :: x5 :: x6 :: x7 :: x8 :: x9 :: x10 :: x11 :: x12 :: x13 :: x14 :: x15 :: x16 :: x17 :: x18 :: x19 :: x20 :: x21 :: some v :: s) h Q E = Q v h := mVar_ex rfl
theorem mVar23 {x0 x1 x2 x3 x4 x5 x6 x7 x8 x9 x10 x11 x12 x13 x14 x15 x16 x17 x18 x19 x20 x21 x22 : Option MV} {v : MV} {s : MSt} {h : MHp} {Q E : MQ} : mVar 23 (x0 :: x1 :: x2 :: x3 :: x4 :: x5 :: x6 :: x7 :: x8 :: x9 :: x10 :: x11 :: x12 :: x13 :: x14 :: x15 :: x16 :: x17 :: x18 :: x19 :: x20 :: x21 :: x22 :: some v :: s) h Q E = Q v h := mVar_ex rfl
theorem gN0 {x0 : Option MV} {v : MV} {s : MSt} {h : MHp} {Q : MSt → MHp → Prop} {E : MQ} : gN 0 v (x0 :: s) h Q E = Q (some v :: s) h := rfl
theorem gN1 {x0 x1 : Option MV} {v : MV} {s : MSt} {h : MHp} {Q : MSt → MHp → Prop} {E : MQ} : gN 1 v (x0 :: x1 :: s) h Q E = Q (x0 :: some v :: s) h := rfl
theorem gN2 {x0 x1 x2 : Option MV} {v : MV} {s : MSt} {h : MHp} {Q : MSt → MHp → Prop} {E : MQ} : gN 2 v (x0 :: x1 :: x2 :: s) h Q E = Q (x0 :: x1 :: some v :: s) h := rfl
theorem gN3 {x0 x1 x2 x3 : Option MV} {v : MV} {s : MSt} {h : MHp} {Q : MSt → MHp → Prop} {E : MQ} : gN 3 v (x0 :: x1 :: x2 :: x3 :: s) h Q E = Q (x0 :: x1 :: x2 :: some v :: s) h := rfl
theorem gN4 {x0 x1 x2 x3 x4 : Option MV} {v : MV} {s : MSt} {h : MHp} {Q : MSt → MHp → Prop} {E : MQ} : gN 4 v (x0 :: x1 :: x2 :: x3 :: x4 :: s) h Q E = Q (x0 :: x1 :: x2 :: x3 :: some v :: s) h := rfl
theorem gN5 {x0 x1 x2 x3 x4 x5 : Option MV} {v : MV} {s : MSt} {h : MHp} {Q : MSt → MHp → Prop} {E : MQ} : gN 5 v (x0 :: x1 :: x2 :: x3 :: x4 :: x5 :: s) h Q E = Q (x0 :: x1 :: x2 :: x3 :: x4 :: some v :: s) h := rfl
theorem gN6 {x0 x1 x2 x3 x4 x5 x6 : Option MV} {v : MV} {s : MSt} {h : MHp} {Q : MSt → MHp → Prop} {E : MQ} : gN 6 v (x0 :: x1 :: x2 :: x3 :: x4 :: x5 :: x6 :: s) h Q E = Q (x0 :: x1 :: x2 :: x3 :: x4 :: x5 :: some v :: s) h := rfl
theorem gN7 {x0 x1 x2 x3 x4 x5 x6 x7 : Option MV} {v : MV} {s : MSt} {h : MHp} {Q : MSt → MHp → Prop} {E : MQ} : gN 7 v (x0 :: x1 :: x2 :: x3 :: x4 :: x5 :: x6 :: x7 :: s) h Q E = Q (x0 :: x1 :: x2 :: x3 :: x4 :: x5 :: x6 :: some v :: s) h := rfl
theorem gN8 {x0 x1 x2 x3 x4 x5 x6 x7 x8 : Option MV} {v : MV} {s : MSt} {h : MHp} {Q : MSt → MHp → Prop} {E : MQ} : gN 8 v (x0 :: x1 :: x2 :: x3 :: x4 :: x5 :: x6 :: x7 :: x8 :: s) h Q E = Q (x0 :: x1 :: x2 :: x3 :: x4 :: x5 :: x6 :: x7 :: some v :: s) h := rfl
theorem gN9 {x0 x1 x2 x3 x4 x5 x6 x7 x8 x9 : Option MV} {v : MV} {s : MSt} {h : MHp} {Q : MSt → MHp → Prop} {E : MQ} : gN 9 v (x0 :: x1 :: x2 :: x3 :: x4 :: x5 :: x6 :: x7 :: x8 :: x9 :: s) h Q E = Q (x0 :: x1 :: x2 :: x3 :: x4 :: x5 :: x6 :: x7 :: x8 :: some v :: s) h := rfl
theorem gN10 {x0 x1 x2 x3 x4 x5 x6 x7 x8 x9 x10 : Option MV} {v : MV} {s : MSt} {h : MHp} {Q : MSt → MHp → Prop} {E : MQ} : gN 10 v (x0 :: x1 :: x2 :: x3 :: x4 :: x5 :: x6 :: x7 :: x8 :: x9 :: x10 :: s) h Q E = Q (x0 :: x1 :: x2 :: x3 :: x4 :: x5 :: x6 :: x7 :: x8 :: x9 :: some v :: s) h := rfl
theorem gN11 {x0 x1 x2 x3 x4 x5 x6 x7 x8 x9 x10 x11 : Option MV} {v : MV} {s : MSt} {h : MHp} {Q : MSt → MHp → Prop} {E : MQ} : gN 11 v (x0 :: x1 :: x2 :: x3 :: x4 :: x5 :: x6 :: x7 :: x8 :: x9 :: x10 :: x11 :: s) h Q E = Q (x0 :: x1 :: x2 :: x3 :: x4 :: x5 :: x6 :: x7 :: x8 :: x9 :: x10 :: some v :: s) h := rfl
theorem gN12 {x0 x1 x2 x3 x4 x5 x6 x7 x8 x9 x10 x11 x12 : Option MV} {v : MV} {s : MSt} {h : MHp} {Q : MSt → MHp → Prop} {E : MQ} : gN 12 v (x0 :: x1 :: x2 :: x3 :: x4 :: x5 :: x6 :: x7 :: x8 :: x9 :: x10 :: x11 :: x12 :: s) h Q E = Q (x0 :: x1 :: x2 :: x3 :: x4 :: x5 :: x6 :: x7 :: x8 :: x9 :: x10 :: x11 :: some v :: s) h := rfl
theorem gN13 {x0 x1 x2 x3 x4 x5 x6 x7 x8 x9 x10 x11 x12 x13 : Option MV} {v : MV} {s : MSt} {h : MHp} {Q : MSt → MHp → Prop} {E : MQ} : gN 13 v (x0 :: x1 :: x2 :: x3 :: x4 :: x5 :: x6 :: x7 :: x8 :: x9 :: x10 :: x11 :: x12 :: x13 :: s) h Q E = Q (x0 :: x1 :: x2 :: x3 :: x4 :: x5 :: x6 :: x7 :: x8 :: x9 :: x10 :: x11 :: x12 :: some v :: s) h := rfl
theorem gN14 {x0 x1 x2 x3 x4 x5 x6 x7 x8 x9 x10 x11 x12 x13 x14 : Option MV} {v : MV} {s : MSt} {h : MHp} {Q : MSt → MHp → Prop} {E : MQ} : gN 14 v (x0 :: x1 :: x2 :: x3 :: x4 :: x5 :: x6 :: x7 :: x8 :: x9 :: x10 :: x11 :: x12 :: x13 :: x14 :: s) h Q E = Q (x0 :: x1 :: x2 :: x3 :: x4 :: x5 :: x6 :: x7 :: x8 :: x9 :: x10 :: x11 :: x12 :: x13 :: some v :: s) h := rfl
theorem gN15 {x0 x1 x2 x3 x4 x5 x6 x7 x8 x9 x10 x11 x12 x13 x14 x15 : Option MV} {v : MV} {s : MSt} {h : MHp} {Q : MSt → MHp → Prop} {E : MQ} : gN 15 v (x0 :: x1 :: x2 :: x3 :: x4 :: x5 :: x6 :: x7 :: x8 :: x9 :: x10 :: x11 :: x12 :: x13 :: x14 :: x15 :: s) h Q E = Q (x0 :: x1 :: x2 :: x3 :: x4 :: x5 :: x6 :: x7 :: x8 :: x9 :: x10 :: x11 :: x12 :: x13 :: x14 :: some v :: s) h := rfl
theorem gN16 {x0 x1 x2 x3 x4 x5 x6 x7 x8 x9 x10 x11 x12 x13 x14 x15 x16 : Option MV} {v : MV} {s : MSt} {h : MHp} {Q : MSt → MHp → Prop} {E : MQ} : gN 16 v (x0 :: x1 :: x2 :: x3 :: x4 :: x5 :: x6 :: x7 :: x8 :: x9 :: x10 :: x11 :: x12 :: x13 :: x14 :: x15 :: x16 :: s) h Q E = Q (x0 :: x1 :: x2 :: x3 :: x4 :: x5 :: x6 :: x7 :: x8 :: x9 :: x10 :: x11 :: x12 :: x13 :: x14 :: x15 :: some v :: s) h := rfl
theorem gN17 {x0 x1 x2 x3 x4 x5 x6 x7 x8 x9 x10 x11 x12 x13 x14 x15 x16 x17 : Option MV} {v : MV} {s : MSt} {h : MHp} {Q : MSt → MHp → Prop} {E : MQ} : gN 17 v (x0 :: x1 :: x2 :: x3 :: x4 :: x5 :: x6 :: x7 :: x8 :: x9 :: x10 :: x11 :: x12 :: x13 :: x14 :: x15 :: x16 :: x17 :: s) h Q E = Q (x0 :: x1 :: x2 :: x3 :: x4 :: x5 :: x6 :: x7 :: x8 :: x9 :: x10 :: x11 :: x12 :: x13 :: x14 :: x15 :: x16 :: some v :: s) h := rfl
theorem gN18 {x0 x1 x2 x3 x4 x5 x6 x7 x8 x9 x10 x11 x12 x13 x14 x15 x16 x17 x18 : Option MV} {v : MV} {s : MSt} {h : MHp} {Q : MSt → MHp → Prop} {E : MQ} : gN 18 v (x0 :: x1 :: x2 :: x3 :: x4 :: x5 :: x6 :: x7 :: x8 :: x9 :: x10 :: x11 :: x12 :: x13 :: x14 :: x15 :: x16 :: x17 :: x18 :: s) h Q E = Q (x0 :: x1 :: x2 :: x3 :: x4 :: x5 :: x6 :: x7 :: x8 :: x9 :: x10 :: x11 :: x12 :: x13 :: x14 :: x15 :: x16 :: x17 :: some v :: s) h := rfl
theorem gN19 {x0 x1 x2 x3 x4 x5 x6 x7 x8 x9 x10 x11 x12 x13 x14 x15 x16 x17 x18 x19 : Option MV} {v : MV} {s : MSt} {h : MHp} {Q : MSt → MHp → Prop} {E : MQ} : gN 19 v (x0 :: x1 :: x2 :: x3 :: x4 :: x5 :: x6 :: x7 :: x8 :: x9 :: x10 :: x11 :: x12 :: x13 :: x14 :: x15 :: x16 :: x17 :: x18 :: x19 :: s) h Q E = Q (x0 :: x1 :: x2 :: x3 :: x4 :: x5 :: x6 :: x7 :: x8 :: x9 :: x10 :: x11 :: x12 :: x13 :: x14 :: x15 :: x16 :: x17 :: x18 :: some v :: s) h := rfl
theorem gN20 {x0 x1 x2 x3 x4 x5 x6 x7 x8 x9 x10 x11 x12 x13 x14 x15 x16 x17 x18 x19 x20 : Option MV} {v : MV} {s : MSt} {h : MHp} {Q : MSt → MHp → Prop} {E : MQ} : gN 20 v (x0 :: x1 :: x2 :: x3 :: x4 :: x5 :: x6 :: x7 :: x8 :: x9 :: x10 :: x11 :: x12 :: x13 :: x14 :: x15 :: x16 :: x17 :: x18 :: x19 :: x20 :: s) h Q E = Q (x0 :: x1 :: x2 :: x3 :: x4 :: x5 :: x6 :: x7 :: x8 :: x9 :: x10 :: x11 :: x12 :: x13 :: x14 :: x15 :: x16 :: x17 :: x18 :: x19 :: some v :: s) h := rfl
theorem gN21 {x0 x1 x2 x3 x4 x5 x6 x7 x8 x9 x10 x11 x12 x13 x14 x15 x16 x17 x18 x19 x20 x21 : Option MV} {v : MV} {s : MSt} {h : MHp} {Q : MSt → MHp → Prop} {E : MQ} : gN 21 v (x0 :: x1 :: x2 :: x3 :: x4 :: x5 :: x6 :: x7 :: x8 :: x9 :: x10 :: x11 :: x12 :: x13 :: x14 :: x15 :: x16 :: x17 :: x18 :: x19 :: x20 :: x21 :: s) h Q E = Q (x0 :: x1 :: x2 :: x3 :: x4 :: x5 :: x6 :: x7 :: x8 :: x9 :: x10 :: x11 :: x12 :: x13 :: x14 :: x15 :: x16 :: x17 :: x18 :: x19 :: x20 :: some v :: s) h := rfl
theorem gN22 {x0 x1 x2 x3 x4 x5 x6 x7 x8 x9 x10 x11 x12 x13 x14 x15 x16 x17 x18 x19 x20 x21 x22 : Option MV} {v : MV} {s : MSt} {h : MHp} {Q : MSt → MHp → Prop} {E : MQ} : gN 22 v (x0 :: x1 :: x2 :: x3 :: x4 :: x5 :: x6 :: x7 :: x8 :: x9 :: x10 :: x11 :: x12 :: x13 :: x14 :: x15 :: x16 :: x17 :: x18 :: x19 :: x20 :: x21 :: x22 :: s) h Q E = Q (x0 :: x1 :: x2 :: x3 :: x4 :: x5 :: x6 :: x7 :: x8 :: x9 :: x10 :: x11 :: x12 :: x13 :: x14 :: x15 :: x16 :: x17 :: x18 :: x19 :: x20 :: x21 :: some v :: s) h := rfl
theorem gN23 {x0 x1 x2 x3 x4 x5 x6 x7 x8 x9 x10 x11 x12 x13 x14 x15 x16 x17 x18 x19 x20 x21 x22 x23 : Option MV} {v : MV} {s : MSt} {h : MHp} {Q : MSt → MHp → Prop} {E : MQ} : gN 23 v (x0 :: x1 :: x2 :: x3 :: x4 :: x5 :: x6 :: x7 :: x8 :: x9 :: x10 :: x11 :: x12 :: x13 :: x14 :: x15 :: x16 :: x17 :: x18 :: x19 :: x20 :: x21 :: x22 :: x23 :: s) h Q E = Q (x0 :: x1 :: x2 :: x3 :: x4 :: x5 :: x6 :: x7 :: x8 :: x9 :: x10 :: x11 :: x12 :: x13 :: x14 :: x15 :: x16 :: x17 :: x18 :: x19 :: x20 :: x21 :: x22 :: some v :: s) h := rfl
theorem mOp2_at {op : MV → MV → MHp → MQ → Prop} {a b : ME} {s : MSt} {h : MHp} {Q E : MQ} : mOp2 op a b s h Q E = a s h (fun v h1 => b s h1 (fun u h2 => @o2 op v u h2 ⟨Q⟩) E) E := rfl
theorem mOp1_at {op : MV → MHp → MQ → Prop} {a : ME} {s : MSt} {h : MHp} {Q E : MQ} : mOp1 op a s h Q E = a s h (fun v h1 => @o1 op v h1 ⟨Q⟩) E := rfl
theorem mNot_at {a : ME} {s : MSt} {h : MHp} {Q E : MQ} : mNot a s h Q E = a s h (fun v h1 => @o1 notM v h1 ⟨Q⟩) E := rfl
theorem tV_at {a : ME} {s : MSt} {h : MHp} {Q : Bool → MHp → Prop} {E : MQ} : tV a s h Q E = a s h (fun v h1 => @bV v h1 ⟨Q⟩) E := rfl
theorem tNo_at {a : MT} {s : MSt} {h : MHp} {Q : Bool → MHp → Prop} {E : MQ} : tNo a s h Q E = a s h (fun b h1 => Q (!b) h1) E := rfl
def ifB (b : Bool) [p : Hold (Prop)] [q : Hold (Prop)] : Prop := if b = true then p.val else q.val
theorem ifB_t {p q : Prop} : @ifB true ⟨p⟩ ⟨q⟩ = p := if_pos rfl
theorem ifB_f {p q : Prop} : @ifB false ⟨p⟩ ⟨q⟩ = q := if_neg Bool.false_ne_true
theorem ifB_i {b : Bool} {p q : Prop} (h1 : b = true → p) (h2 : b = false → q) : @ifB b ⟨p⟩ ⟨q⟩ := by
  cases b
  · exact ifB_f ▸ h2 rfl
  · exact ifB_t ▸ h1 rfl
theorem ifB_n {b : Bool} {p q : Prop} : @ifB (!b) ⟨p⟩ ⟨q⟩ = @ifB b ⟨q⟩ ⟨p⟩ := by cases b <;> rfl

theorem tAn_at {a b : MT} {s : MSt} {h : MHp} {Q : Bool → MHp → Prop} {E : MQ} : tAn a b s h Q E = a s h (fun c h1 => @ifB c ⟨b s h1 Q E⟩ ⟨Q false h1⟩) E := rfl
theorem tOr_at {a b : MT} {s : MSt} {h : MHp} {Q : Bool → MHp → Prop} {E : MQ} : Mini.tOr a b s h Q E = a s h (fun c h1 => @ifB c ⟨Q true h1⟩ ⟨b s h1 Q E⟩) E := rfl
theorem tAll_at {s : MSt} {h : MHp} {Q : Bool → MHp → Prop} {E : MQ} : tAll s h Q E = Q true h := rfl
theorem mAnd_at {a b : ME} {s : MSt} {h : MHp} {Q E : MQ} : mAnd a b s h Q E = a s h (fun v h1 => @bV v h1 ⟨fun c h1 => @ifB c ⟨b s h1 Q E⟩ ⟨Q (.bl false) h1⟩⟩) E := rfl
theorem mOr_at {a b : ME} {s : MSt} {h : MHp} {Q E : MQ} : mOr a b s h Q E = a s h (fun v h1 => @bV v h1 ⟨fun c h1 => @ifB c ⟨Q (.bl true) h1⟩ ⟨b s h1 Q E⟩⟩) E := rfl
theorem mIfE_at {t : MT} {a b : ME} {s : MSt} {h : MHp} {Q E : MQ} : mIfE t a b s h Q E = t s h (fun c h1 => @ifB c ⟨a s h1 Q E⟩ ⟨b s h1 Q E⟩) E := rfl
theorem aNil_at {s : MSt} {h : MHp} {Q : List MV → MHp → Prop} {E : MQ} : aNil s h Q E = Q [] h := rfl
theorem aCons_at {a : ME} {r : MA} {s : MSt} {h : MHp} {Q : List MV → MHp → Prop} {E : MQ} : aCons a r s h Q E = a s h (fun v h1 => r s h1 (fun vs h2 => Q (v :: vs) h2) E) E := rfl
theorem mTup_at {r : MA} {s : MSt} {h : MHp} {Q E : MQ} : mTup r s h Q E = r s h (fun vs h1 => vs.length ≤ sizeLine ∧ Q (.tup vs) h1) E := rfl
theorem mLst_at {r : MA} {s : MSt} {h : MHp} {Q E : MQ} : mLst r s h Q E = r s h (fun vs h1 => vs.length ≤ sizeLine ∧ Q (.fl vs) h1) E := rfl
theorem mLstC_at {r : MA} {s : MSt} {h : MHp} {Q E : MQ} : mLstC r s h Q E = r s h (fun vs h1 => vs.length ≤ sizeLine ∧ Q (.ref h1.length) (h1 ++ [.lst vs])) E := rfl
theorem mB_at {op : List MV → MHp → MQ → Prop} {r : MA} {s : MSt} {h : MHp} {Q E : MQ} : mB op r s h Q E = r s h (fun vs h1 => @oN op vs h1 ⟨Q⟩) E := rfl
theorem mCall_at {f : Sem} {r : MA} {s : MSt} {h : MHp} {Q E : MQ} : mCall f r s h Q E = r s h (fun vs h1 => @call f vs h1 ⟨Q⟩ ⟨E⟩) E := rfl
def oM' (op : MV → List MV → MHp → MQ → Prop) (v : MV) (vs : List MV) (h : MHp) [Q : Hold (MQ)] : Prop := op v vs h Q.val
def isL (v : MV) (h : MHp) : Prop := (lstOf h v).isSome = true
theorem isL_fl {xs : List MV} {h : MHp} : isL (.fl xs) h = True := eq_true rfl
theorem isL_ref {n : Nat} {h : MHp} : isL (.ref n) h = @withC h[n]? ⟨fun _ => True⟩ := withC_of (fun xs e => ⟨fun _ => trivial, fun _ => by unfold isL; rw [lst_r e]; rfl⟩) fun hn p => by unfold isL at p; rw [lst_n hn] at p; cases p
theorem mMt_at {op : MV → List MV → MHp → MQ → Prop} {o : ME} {r : MA} {s : MSt} {h : MHp} {Q E : MQ} : mMt op o r s h Q E = o s h (fun v h1 => isL v h1 ∧ r s h1 (fun vs h2 => @oM' op v vs h2 ⟨Q⟩) E) E := rfl
theorem mMt0_at {op : MV → List MV → MHp → MQ → Prop} {o : ME} {s : MSt} {h : MHp} {Q E : MQ} : mMt0 op o s h Q E = o s h (fun v h1 => isL v h1 ∧ @oM' op v [] h1 ⟨Q⟩) E := rfl
def isS (T : String) (v : MV) (h : MHp) [Q : Hold (MQ)] : Prop := isiM T [v] h Q.val
theorem mIsi_at {T : String} {a : ME} {s : MSt} {h : MHp} {Q E : MQ} : mIsi T a s h Q E = a s h (fun v h1 => @isS T v h1 ⟨Q⟩) E := rfl
theorem mIsX_at {has : List Nat} {j : Nat} {a : ME} {s : MSt} {h : MHp} {Q E : MQ} : mIsX has j a s h Q E = a s h (fun v h1 => @o1 (isXM has j) v h1 ⟨Q⟩) E := rfl
theorem mIsVE_at {has : List Nat} {a : ME} {s : MSt} {h : MHp} {Q E : MQ} : mIsVE has a s h Q E = a s h (fun v h1 => @o1 (isVEM has) v h1 ⟨Q⟩) E := rfl
theorem o1_isX {has : List Nat} {j c : Nat} {xs : List MV} {h : MHp} {Q : MQ} : @o1 (isXM has j) (.ex c xs) h ⟨Q⟩ = (c ∈ has ∧ Q (.bl (subX c j)) h) := propext
  ⟨fun ⟨c', xs', e, h1, h2⟩ => by cases e; exact ⟨h1, h2⟩, fun ⟨h1, h2⟩ => ⟨_, _, rfl, h1, h2⟩⟩
theorem o1_isVE {has : List Nat} {c : Nat} {xs : List MV} {h : MHp} {Q : MQ} : @o1 (isVEM has) (.ex c xs) h ⟨Q⟩ = (c ∈ has ∧ Q (.bl true) h) := propext
  ⟨fun ⟨c', xs', e, h1, h2⟩ => by cases e; exact ⟨h1, h2⟩, fun ⟨h1, h2⟩ => ⟨_, _, rfl, h1, h2⟩⟩
theorem isS_ev {T : String} {v : MV} {t : String} {b : Bool} {h : MHp} {Q : MQ} (e : tyM h v = some t) (k : kitB t T = some b) : @isS T v h ⟨Q⟩ = Q (.bl b) h := propext
  ⟨fun ⟨v', t', b', e1, e2, e3, q⟩ => by cases e1; rw [e] at e2; cases e2; rw [k] at e3; cases e3; exact q, fun q => ⟨v, t, b, rfl, e, k, q⟩⟩
theorem isS_tuple_non {h : MHp} {Q : MQ} : @isS "tuple" (.non) h ⟨Q⟩ = Q (.bl false) h := isS_ev rfl (by decide +kernel)
theorem isS_tuple_bl {b : Bool} {h : MHp} {Q : MQ} : @isS "tuple" (.bl b) h ⟨Q⟩ = Q (.bl false) h := isS_ev rfl (by decide +kernel)
theorem isS_tuple_int {i : Int} {h : MHp} {Q : MQ} : @isS "tuple" (.int i) h ⟨Q⟩ = Q (.bl false) h := isS_ev rfl (by decide +kernel)
theorem isS_tuple_str {x : Str} {h : MHp} {Q : MQ} : @isS "tuple" (.str x) h ⟨Q⟩ = Q (.bl false) h := isS_ev rfl (by decide +kernel)
theorem isS_tuple_tup {xs : List MV} {h : MHp} {Q : MQ} : @isS "tuple" (.tup xs) h ⟨Q⟩ = Q (.bl true) h := isS_ev rfl (by decide +kernel)
theorem isS_tuple_fl {xs : List MV} {h : MHp} {Q : MQ} : @isS "tuple" (.fl xs) h ⟨Q⟩ = Q (.bl false) h := isS_ev rfl (by decide +kernel)
theorem isS_tuple_sc {xs : List MV} {h : MHp} {Q : MQ} : @isS "tuple" (.sc xs) h ⟨Q⟩ = Q (.bl false) h := isS_ev rfl (by decide +kernel)
theorem isS_list_non {h : MHp} {Q : MQ} : @isS "list" (.non) h ⟨Q⟩ = Q (.bl false) h := isS_ev rfl (by decide +kernel)
theorem isS_list_bl {b : Bool} {h : MHp} {Q : MQ} : @isS "list" (.bl b) h ⟨Q⟩ = Q (.bl false) h := isS_ev rfl (by decide +kernel)
theorem isS_list_int {i : Int} {h : MHp} {Q : MQ} : @isS "list" (.int i) h ⟨Q⟩ = Q (.bl false) h := isS_ev rfl (by decide +kernel)
theorem isS_list_str {x : Str} {h : MHp} {Q : MQ} : @isS "list" (.str x) h ⟨Q⟩ = Q (.bl false) h := isS_ev rfl (by decide +kernel)
theorem isS_list_tup {xs : List MV} {h : MHp} {Q : MQ} : @isS "list" (.tup xs) h ⟨Q⟩ = Q (.bl false) h := isS_ev rfl (by decide +kernel)
theorem isS_list_fl {xs : List MV} {h : MHp} {Q : MQ} : @isS "list" (.fl xs) h ⟨Q⟩ = Q (.bl true) h := isS_ev rfl (by decide +kernel)
theorem isS_list_sc {xs : List MV} {h : MHp} {Q : MQ} : @isS "list" (.sc xs) h ⟨Q⟩ = Q (.bl true) h := isS_ev rfl (by decide +kernel)
theorem isS_int_non {h : MHp} {Q : MQ} : @isS "int" (.non) h ⟨Q⟩ = Q (.bl false) h := isS_ev rfl (by decide +kernel)
theorem isS_int_bl {b : Bool} {h : MHp} {Q : MQ} : @isS "int" (.bl b) h ⟨Q⟩ = Q (.bl true) h := isS_ev rfl (by decide +kernel)
theorem isS_int_int {i : Int} {h : MHp} {Q : MQ} : @isS "int" (.int i) h ⟨Q⟩ = Q (.bl true) h := isS_ev rfl (by decide +kernel)
theorem isS_int_str {x : Str} {h : MHp} {Q : MQ} : @isS "int" (.str x) h ⟨Q⟩ = Q (.bl false) h := isS_ev rfl (by decide +kernel)
theorem isS_int_tup {xs : List MV} {h : MHp} {Q : MQ} : @isS "int" (.tup xs) h ⟨Q⟩ = Q (.bl false) h := isS_ev rfl (by decide +kernel)
theorem isS_int_fl {xs : List MV} {h : MHp} {Q : MQ} : @isS "int" (.fl xs) h ⟨Q⟩ = Q (.bl false) h := isS_ev rfl (by decide +kernel)
theorem isS_int_sc {xs : List MV} {h : MHp} {Q : MQ} : @isS "int" (.sc xs) h ⟨Q⟩ = Q (.bl false) h := isS_ev rfl (by decide +kernel)
theorem isS_bool_non {h : MHp} {Q : MQ} : @isS "bool" (.non) h ⟨Q⟩ = Q (.bl false) h := isS_ev rfl (by decide +kernel)
theorem isS_bool_bl {b : Bool} {h : MHp} {Q : MQ} : @isS "bool" (.bl b) h ⟨Q⟩ = Q (.bl true) h := isS_ev rfl (by decide +kernel)
theorem isS_bool_int {i : Int} {h : MHp} {Q : MQ} : @isS "bool" (.int i) h ⟨Q⟩ = Q (.bl false) h := isS_ev rfl (by decide +kernel)
theorem isS_bool_str {x : Str} {h : MHp} {Q : MQ} : @isS "bool" (.str x) h ⟨Q⟩ = Q (.bl false) h := isS_ev rfl (by decide +kernel)
theorem isS_bool_tup {xs : List MV} {h : MHp} {Q : MQ} : @isS "bool" (.tup xs) h ⟨Q⟩ = Q (.bl false) h := isS_ev rfl (by decide +kernel)
theorem isS_bool_fl {xs : List MV} {h : MHp} {Q : MQ} : @isS "bool" (.fl xs) h ⟨Q⟩ = Q (.bl false) h := isS_ev rfl (by decide +kernel)
theorem isS_bool_sc {xs : List MV} {h : MHp} {Q : MQ} : @isS "bool" (.sc xs) h ⟨Q⟩ = Q (.bl false) h := isS_ev rfl (by decide +kernel)
theorem isS_str_non {h : MHp} {Q : MQ} : @isS "str" (.non) h ⟨Q⟩ = Q (.bl false) h := isS_ev rfl (by decide +kernel)
theorem isS_str_bl {b : Bool} {h : MHp} {Q : MQ} : @isS "str" (.bl b) h ⟨Q⟩ = Q (.bl false) h := isS_ev rfl (by decide +kernel)
theorem isS_str_int {i : Int} {h : MHp} {Q : MQ} : @isS "str" (.int i) h ⟨Q⟩ = Q (.bl false) h := isS_ev rfl (by decide +kernel)
theorem isS_str_str {x : Str} {h : MHp} {Q : MQ} : @isS "str" (.str x) h ⟨Q⟩ = Q (.bl true) h := isS_ev rfl (by decide +kernel)
theorem isS_str_tup {xs : List MV} {h : MHp} {Q : MQ} : @isS "str" (.tup xs) h ⟨Q⟩ = Q (.bl false) h := isS_ev rfl (by decide +kernel)
theorem isS_str_fl {xs : List MV} {h : MHp} {Q : MQ} : @isS "str" (.fl xs) h ⟨Q⟩ = Q (.bl false) h := isS_ev rfl (by decide +kernel)
theorem isS_str_sc {xs : List MV} {h : MHp} {Q : MQ} : @isS "str" (.sc xs) h ⟨Q⟩ = Q (.bl false) h := isS_ev rfl (by decide +kernel)
theorem isS_list_ref {n : Nat} {h : MHp} {Q : MQ} : @isS "list" (.ref n) h ⟨Q⟩ = @withC h[n]? ⟨fun _ => Q (.bl true) h⟩ := by
  cases e : h[n]? with
  | none => exact propext ⟨fun ⟨v', t', b', e1, e2, e3, q⟩ => by cases e1; simp [tyM, e] at e2, fun z => z.elim⟩
  | some c => cases c with
    | lst xs => exact isS_ev (t := "list") (by simp [tyM, e]) (by decide +kernel)
    | _ => exact propext ⟨fun ⟨v', t', b', e1, e2, e3, q⟩ => by cases e1; simp [tyM, e] at e2, fun z => z.elim⟩
theorem isS_tuple_ref {n : Nat} {h : MHp} {Q : MQ} : @isS "tuple" (.ref n) h ⟨Q⟩ = @withC h[n]? ⟨fun _ => Q (.bl false) h⟩ := by
  cases e : h[n]? with
  | none => exact propext ⟨fun ⟨v', t', b', e1, e2, e3, q⟩ => by cases e1; simp [tyM, e] at e2, fun z => z.elim⟩
  | some c => cases c with
    | lst xs => exact isS_ev (t := "list") (by simp [tyM, e]) (by decide +kernel)
    | _ => exact propext ⟨fun ⟨v', t', b', e1, e2, e3, q⟩ => by cases e1; simp [tyM, e] at e2, fun z => z.elim⟩
theorem mChain_at {r r' : MV → MV → MHp → MQ → Prop} {a b c : ME} {s : MSt} {h : MHp} {Q E : MQ} : mChain r r' a b c s h Q E = a s h (fun x h1 => b s h1 (fun y h2 => @o2 r x y h2 ⟨fun z h3 => @bV z h3 ⟨fun k h3 => @ifB k ⟨c s h3 (fun w h4 => @o2 r' y w h4 ⟨Q⟩) E⟩ ⟨Q (.bl false) h3⟩⟩⟩) E) E := rfl
def oSl (r : MV → Option Int → Option Int → MHp → MQ → Prop) (v : MV) (lo : Option Int) (hi : Option Int) (h : MHp) [Q : Hold (MQ)] : Prop := r v lo hi h Q.val
theorem mSl_at {r : MV → Option Int → Option Int → MHp → MQ → Prop} {a : ME} {l u : MO} {s : MSt} {h : MHp} {Q E : MQ} : mSl r a l u s h Q E = a s h (fun v h1 => l s h1 (fun lo h2 => u s h2 (fun hi h3 => @oSl r v lo hi h3 ⟨Q⟩) E) E) E := rfl
theorem pNo_at {s : MSt} {h : MHp} {Q : Option Int → MHp → Prop} {E : MQ} : pNo s h Q E = Q none h := rfl
theorem pAt_at {a : ME} {s : MSt} {h : MHp} {Q : Option Int → MHp → Prop} {E : MQ} : pAt a s h Q E = a s h (fun v h1 => @iV v h1 ⟨fun i h1 => Q (some i) h1⟩) E := rfl
theorem sl_tup {xs : List MV} {lo hi : Option Int} {h : MHp} {Q : MQ} : @oSl slM (.tup xs) lo hi h ⟨Q⟩ = Q (.tup (cutM xs lo hi)) h := rfl
theorem sl_fl {xs : List MV} {lo hi : Option Int} {h : MHp} {Q : MQ} : @oSl slM (.fl xs) lo hi h ⟨Q⟩ = Q (.fl (cutM xs lo hi)) h := propext ⟨fun ⟨_, e, q⟩ => by cases e; exact q, fun q => ⟨_, rfl, q⟩⟩
theorem sl_sc {xs : List MV} {lo hi : Option Int} {h : MHp} {Q : MQ} : @oSl slM (.sc xs) lo hi h ⟨Q⟩ = Q (.fl (cutM xs lo hi)) h := propext ⟨fun ⟨_, e, q⟩ => by cases e; exact q, fun q => ⟨_, rfl, q⟩⟩
theorem slC_fl {xs : List MV} {lo hi : Option Int} {h : MHp} {Q : MQ} : @oSl slMC (.fl xs) lo hi h ⟨Q⟩ = Q (.ref h.length) (h ++ [.lst (cutM xs lo hi)]) := propext ⟨fun ⟨_, e, q⟩ => by cases e; exact q, fun q => ⟨_, rfl, q⟩⟩
theorem slC_sc {xs : List MV} {lo hi : Option Int} {h : MHp} {Q : MQ} : @oSl slMC (.sc xs) lo hi h ⟨Q⟩ = Q (.ref h.length) (h ++ [.lst (cutM xs lo hi)]) := propext ⟨fun ⟨_, e, q⟩ => by cases e; exact q, fun q => ⟨_, rfl, q⟩⟩
theorem sl_ref {n : Nat} {lo hi : Option Int} {h : MHp} {Q : MQ} : @oSl slM (.ref n) lo hi h ⟨Q⟩ = @withC h[n]? ⟨fun xs => Q (.fl (cutM xs lo hi)) h⟩ := withC_rf Iff.rfl
theorem slC_ref {n : Nat} {lo hi : Option Int} {h : MHp} {Q : MQ} : @oSl slMC (.ref n) lo hi h ⟨Q⟩ = @withC h[n]? ⟨fun xs => Q (.ref h.length) (h ++ [.lst (cutM xs lo hi)])⟩ := withC_rf Iff.rfl
theorem mNext_at {s : MSt} {h : MHp} {N : MSt → MHp → Prop} {R : MQ} {B C : MSt → MHp → Prop} {X : MV → MSt → MHp → Prop} : mNext s h ⟨N, R, B, C, X⟩ = N s h := rfl
theorem mSeq_at {a b : MS} {s : MSt} {h : MHp} {N : MSt → MHp → Prop} {R : MQ} {B C : MSt → MHp → Prop} {X : MV → MSt → MHp → Prop} : mSeq a b s h ⟨N, R, B, C, X⟩ = a s h ⟨fun s' h' => @kb ⟨b⟩ s' h' ⟨⟨N, R, B, C, X⟩⟩, R, B, C, X⟩ := rfl
theorem mDrop_at {a : ME} {s : MSt} {h : MHp} {N : MSt → MHp → Prop} {R : MQ} {B C : MSt → MHp → Prop} {X : MV → MSt → MHp → Prop} : mDrop a s h ⟨N, R, B, C, X⟩ = a s h (fun _ h' => N s h') (fun e h' => X e s h') := rfl
theorem mRet_at {a : ME} {s : MSt} {h : MHp} {N : MSt → MHp → Prop} {R : MQ} {B C : MSt → MHp → Prop} {X : MV → MSt → MHp → Prop} : mRet a s h ⟨N, R, B, C, X⟩ = a s h R (fun e h' => X e s h') := rfl
theorem mRetN_at {s : MSt} {h : MHp} {N : MSt → MHp → Prop} {R : MQ} {B C : MSt → MHp → Prop} {X : MV → MSt → MHp → Prop} : mRetN s h ⟨N, R, B, C, X⟩ = R .non h := rfl
theorem mIf_at {t : MT} {a b : MS} {s : MSt} {h : MHp} {N : MSt → MHp → Prop} {R : MQ} {B C : MSt → MHp → Prop} {X : MV → MSt → MHp → Prop} : mIf t a b s h ⟨N, R, B, C, X⟩ = t s h (fun c h' => @ifB c ⟨@kb ⟨a⟩ s h' ⟨⟨N, R, B, C, X⟩⟩⟩ ⟨@kb ⟨b⟩ s h' ⟨⟨N, R, B, C, X⟩⟩⟩) (fun e h' => X e s h') := rfl
theorem mBrk_at {s : MSt} {h : MHp} {N : MSt → MHp → Prop} {R : MQ} {B C : MSt → MHp → Prop} {X : MV → MSt → MHp → Prop} : mBrk s h ⟨N, R, B, C, X⟩ = B s h := rfl
theorem mCnt_at {s : MSt} {h : MHp} {N : MSt → MHp → Prop} {R : MQ} {B C : MSt → MHp → Prop} {X : MV → MSt → MHp → Prop} : mCnt s h ⟨N, R, B, C, X⟩ = C s h := rfl
theorem mAsg_at {a : ME} {g : MG} {s : MSt} {h : MHp} {N : MSt → MHp → Prop} {R : MQ} {B C : MSt → MHp → Prop} {X : MV → MSt → MHp → Prop} : mAsg a g s h ⟨N, R, B, C, X⟩ = a s h (fun v h1 => g v s h1 N fun e h' => X e s h') (fun e h' => X e s h') := rfl
theorem mFor_at {m : MI} {g : MG} {b : MS} {s : MSt} {h : MHp} {N : MSt → MHp → Prop} {R : MQ} {B C : MSt → MHp → Prop} {X : MV → MSt → MHp → Prop} : mFor m g b s h ⟨N, R, B, C, X⟩ = m s h (fun xs ok h1 => @loop ok g b xs s h1 ⟨⟨N, R, B, C, X⟩⟩) (fun e h' => X e s h') := rfl
theorem mWhile_at {t : MT} {b : MS} {s : MSt} {h : MHp} {N : MSt → MHp → Prop} {R : MQ} {B C : MSt → MHp → Prop} {X : MV → MSt → MHp → Prop} : mWhile t b s h ⟨N, R, B, C, X⟩ = @whl t b s h ⟨⟨N, R, B, C, X⟩⟩ := rfl
def parS (i : Nat) (j : Nat) (vs : List MV) (s : MSt) (h : MHp) [Q : Hold (MSt → MHp → Prop)] : Prop := ∃ v w, vs = [v, w] ∧ Q.val ((s.set i (some v)).set j (some w)) h
theorem mPar_at {i j : Nat} {a : MA} {s : MSt} {h : MHp} {N : MSt → MHp → Prop} {R : MQ} {B C : MSt → MHp → Prop} {X : MV → MSt → MHp → Prop} : mPar i j a s h ⟨N, R, B, C, X⟩ = a s h (fun vs h1 => @parS i j vs s h1 ⟨N⟩) (fun e h' => X e s h') := rfl
theorem parS_at {i j : Nat} {v w : MV} {s : MSt} {h : MHp} {Q : MSt → MHp → Prop} : @parS i j [v, w] s h ⟨Q⟩ = Q ((s.set i (some v)).set j (some w)) h := propext ⟨fun ⟨_, _, e, q⟩ => by cases e; exact q, fun q => ⟨_, _, rfl, q⟩⟩
def parS3 (i : Nat) (j : Nat) (l : Nat) (vs : List MV) (s : MSt) (h : MHp) [Q : Hold (MSt → MHp → Prop)] : Prop := ∃ u v w, vs = [u, v, w] ∧ Q.val (((s.set i (some u)).set j (some v)).set l (some w)) h
theorem mPar3_at {i j l : Nat} {a : MA} {s : MSt} {h : MHp} {N : MSt → MHp → Prop} {R : MQ} {B C : MSt → MHp → Prop} {X : MV → MSt → MHp → Prop} : mPar3 i j l a s h ⟨N, R, B, C, X⟩ = a s h (fun vs h1 => @parS3 i j l vs s h1 ⟨N⟩) (fun e h' => X e s h') := rfl
theorem parS3_at {i j l : Nat} {u v w : MV} {s : MSt} {h : MHp} {Q : MSt → MHp → Prop} : @parS3 i j l [u, v, w] s h ⟨Q⟩ = Q (((s.set i (some u)).set j (some v)).set l (some w)) h := propext ⟨fun ⟨_, _, _, e, q⟩ => by cases e; exact q, fun q => ⟨_, _, _, rfl, q⟩⟩
theorem mAug_at {f : Int → Int → Int} {i : Nat} {a : ME} {s : MSt} {h : MHp} {N : MSt → MHp → Prop} {R : MQ} {B C : MSt → MHp → Prop} {X : MV → MSt → MHp → Prop} : mAug f i a s h ⟨N, R, B, C, X⟩ = mVar i s h (fun k _ => @iV k h ⟨fun k h => a s h (fun v h1 => @iV v h1 ⟨fun j h1 => N (s.set i (some (.int (f k j)))) h1⟩) (fun e h' => X e s h')⟩) (fun _ _ => False) := propext
  ⟨fun ⟨k, e, q⟩ => ⟨_, e, k, rfl, q⟩, fun ⟨v, e, k, e2, q⟩ => ⟨k, by rw [e, e2], q⟩⟩
theorem gsNil_at {s : MSt} {h : MHp} {Q : MSt → MHp → Prop} {E : MQ} : gsNil [] s h Q E = Q s h := propext ⟨fun q => q.2, fun q => ⟨rfl, q⟩⟩
theorem gsCons_at {g : MG} {r : MGs} {v : MV} {vs : List MV} {s : MSt} {h : MHp} {Q : MSt → MHp → Prop} {E : MQ} : gsCons g r (v :: vs) s h Q E = g v s h (fun s' h' => r vs s' h' Q fun _ _ => False) E := propext ⟨fun ⟨_, _, e, q⟩ => by cases e; exact q, fun q => ⟨_, _, rfl, q⟩⟩
theorem gT2_at {r : MGs} {a b : MV} {s : MSt} {h : MHp} {Q : MSt → MHp → Prop} {E : MQ} : gT r 2 (.tup [a, b]) s h Q E = r [a, b] s h Q E := propext ⟨fun ⟨_, e, _, q⟩ => by cases e; exact q, fun q => ⟨_, rfl, rfl, q⟩⟩
theorem gT3_at {r : MGs} {a b c : MV} {s : MSt} {h : MHp} {Q : MSt → MHp → Prop} {E : MQ} : gT r 3 (.tup [a, b, c]) s h Q E = r [a, b, c] s h Q E := propext ⟨fun ⟨_, e, _, q⟩ => by cases e; exact q, fun q => ⟨_, rfl, rfl, q⟩⟩
theorem gL2_at {r : MGs} {a b : MV} {s : MSt} {h : MHp} {Q : MSt → MHp → Prop} {E : MQ} : gL r 2 (.fl [a, b]) s h Q E = r [a, b] s h Q E := propext ⟨fun ⟨_, e, _, q⟩ => by cases e; exact q, fun q => ⟨_, rfl, rfl, q⟩⟩
theorem gL3_at {r : MGs} {a b c : MV} {s : MSt} {h : MHp} {Q : MSt → MHp → Prop} {E : MQ} : gL r 3 (.fl [a, b, c]) s h Q E = r [a, b, c] s h Q E := propext ⟨fun ⟨_, e, _, q⟩ => by cases e; exact q, fun q => ⟨_, rfl, rfl, q⟩⟩
def setI (x : MV) (k : MV) (v : MV) (s : MSt) (h : MHp) [Q : Hold (MSt → MHp → Prop)] : Prop := ∃ n xs j m, cellOf h x = some (n, xs) ∧ k = .int j ∧ ixN xs.length j = some m ∧ Q.val s (h.set n (.lst (xs.set m v)))
theorem setI_at {n : Nat} {j : Int} {v : MV} {s : MSt} {h : MHp} {Q : MSt → MHp → Prop} : @setI (.ref n) (.int j) v s h ⟨Q⟩ = @withC h[n]? ⟨fun xs => @withN (ixN xs.length j) ⟨fun m => Q s (h.set n (.lst (xs.set m v)))⟩⟩ := by
  cases e : h[n]? with
  | none => exact propext ⟨fun ⟨n', xs, j', m, e1, _⟩ => by simp [cellOf, e] at e1, fun z => z.elim⟩
  | some c => cases c with
    | lst xs =>
      refine propext ⟨fun ⟨n', xs', j', m, e1, e2, e3, q⟩ => ?_, fun q => ?_⟩
      · simp only [cellOf, e, Option.some.injEq, Prod.mk.injEq] at e1
        obtain ⟨rfl, rfl⟩ := e1
        cases e2
        rw [withC_l, e3]
        exact q
      · rw [withC_l] at q
        cases e3 : ixN xs.length j with
        | none => rw [e3] at q; exact q.elim
        | some m => rw [e3] at q; exact ⟨n, xs, j, m, by simp [cellOf, e], rfl, e3, q⟩
    | _ => exact propext ⟨fun ⟨n', xs, j', m, e1, _⟩ => by simp [cellOf, e] at e1, fun z => z.elim⟩
theorem gIx_at {o i : ME} {v : MV} {s : MSt} {h : MHp} {Q : MSt → MHp → Prop} {E : MQ} : gIx o i v s h Q E = o s h (fun x h1 => i s h1 (fun k h2 => @setI x k v s h2 ⟨Q⟩) E) E := rfl
theorem mLc_at {mi : MI} {g : MG} {t : MT} {elt : ME} {vs : List Nat} {s : MSt} {h : MHp} {Q E : MQ} : mLc mi g t elt vs s h Q E = mi s h (fun xs ok h1 => @comp ok g t elt (wipeM s vs) xs [] h1 ⟨fun ys h2 => Q (.fl ys) h2⟩) E := rfl
theorem mLcC_at {mi : MI} {g : MG} {t : MT} {elt : ME} {vs : List Nat} {s : MSt} {h : MHp} {Q E : MQ} : mLcC mi g t elt vs s h Q E = mi s h (fun xs ok h1 => @comp ok g t elt (wipeM s vs) xs [] h1 ⟨fun ys h2 => Q (.ref h2.length) (h2 ++ [.lst ys])⟩) E := rfl
theorem mLc2_at {mi mi1 : MI} {g g1 : MG} {t t1 : MT} {elt : ME} {vs vs1 : List Nat} {s : MSt} {h : MHp} {Q E : MQ} : mLc2 mi g t mi1 g1 t1 elt vs vs1 s h Q E = mi s h (fun xs ok h1 => @comp2 ok g t mi1 g1 t1 elt (wipeM s vs) vs1 xs [] h1 ⟨fun ys h2 => Q (.fl ys) h2⟩) E := rfl
theorem mLc2C_at {mi mi1 : MI} {g g1 : MG} {t t1 : MT} {elt : ME} {vs vs1 : List Nat} {s : MSt} {h : MHp} {Q E : MQ} : mLc2C mi g t mi1 g1 t1 elt vs vs1 s h Q E = mi s h (fun xs ok h1 => @comp2 ok g t mi1 g1 t1 elt (wipeM s vs) vs1 xs [] h1 ⟨fun ys h2 => Q (.ref h2.length) (h2 ++ [Cell.lst ys])⟩) E := rfl
def itS (v : MV) (h : MHp) [R : Hold (MR)] : Prop := match v with
  | .tup xs => R.val xs (fun _ => True) h
  | v => ∃ xs, lstOf h v = some xs ∧ R.val xs (fun h' => lstOf h' v = some xs) h
theorem okfl {xs : List MV} : (fun h' => lstOf h' (.fl xs) = some xs) = okT := funext fun _ => propext ⟨fun _ => trivial, fun _ => rfl⟩
theorem oksc {xs : List MV} : (fun h' => lstOf h' (.sc xs) = some xs) = okT := funext fun _ => propext ⟨fun _ => trivial, fun _ => rfl⟩
def eS (vs : List MV) (h : MHp) [R : Hold (MR)] : Prop := match vs with
  | [.tup xs] => R.val (enumL xs) (fun _ => True) h
  | [v] => ∃ xs, lstOf h v = some xs ∧ R.val (enumL xs) (fun h' => lstOf h' v = some xs) h
  | _ => False
def zS (vs : List MV) (h : MHp) [R : Hold (MR)] : Prop := match vs with
  | [.tup xs, .tup ys] => R.val (zipL xs ys) (fun _ => True) h
  | [v, u] => ∃ xs ys, lstOf h v = some xs ∧ lstOf h u = some ys ∧ R.val (zipL xs ys) (fun h' => lstOf h' v = some xs ∧ lstOf h' u = some ys) h
  | _ => False
def rS1 (vs : List MV) (h : MHp) [R : Hold (MR)] : Prop := match vs with
  | [.int j] => j < 2 ^ 62 ∧ -(2 ^ 62) ≤ j ∧ R.val (rng 0 j) (fun _ => True) h
  | _ => False
def rS2 (vs : List MV) (h : MHp) [R : Hold (MR)] : Prop := match vs with
  | [.int i, .int j] => (i < 2 ^ 62 ∧ -(2 ^ 62) ≤ i) ∧ (j < 2 ^ 62 ∧ -(2 ^ 62) ≤ j) ∧ R.val (rng i j) (fun _ => True) h
  | _ => False

theorem iSeq_at {a : ME} {s : MSt} {h : MHp} {R : MR} {E : MQ} : iSeq a s h R E = a s h (fun v h1 => @itS v h1 ⟨R⟩) E := rfl
theorem iEnum_at {a : MA} {s : MSt} {h : MHp} {R : MR} {E : MQ} : iEnum a s h R E = a s h (fun v h1 => @eS v h1 ⟨R⟩) E := rfl
theorem iZip_at {a : MA} {s : MSt} {h : MHp} {R : MR} {E : MQ} : iZip a s h R E = a s h (fun v h1 => @zS v h1 ⟨R⟩) E := rfl
theorem iRng1_at {a : MA} {s : MSt} {h : MHp} {R : MR} {E : MQ} : iRng1 a s h R E = a s h (fun v h1 => @rS1 v h1 ⟨R⟩) E := rfl
theorem iRng2_at {a : MA} {s : MSt} {h : MHp} {R : MR} {E : MQ} : iRng2 a s h R E = a s h (fun v h1 => @rS2 v h1 ⟨R⟩) E := rfl
def tpS (v : MV) (h : MHp) [R : Hold (MR)] : Prop := ∃ xs, v = .tup xs ∧ R.val xs (fun _ => True) h
theorem iTup_at {a : ME} {s : MSt} {h : MHp} {R : MR} {E : MQ} : iTup a s h R E = a s h (fun v h1 => @tpS v h1 ⟨R⟩) E := rfl
theorem tpS_at {xs : List MV} {h : MHp} {R : MR} : @tpS (.tup xs) h ⟨R⟩ = R xs okT h := propext ⟨fun ⟨_, e, q⟩ => by cases e; exact q, fun q => ⟨_, rfl, q⟩⟩
theorem itS_tup {xs : List MV} {h : MHp} {R : MR} : @itS (.tup xs) h ⟨R⟩ = R xs okT h := rfl
theorem itS_fl {xs : List MV} {h : MHp} {R : MR} : @itS (.fl xs) h ⟨R⟩ = R xs okT h := propext ⟨fun ⟨_, e, q⟩ => by cases e; rw [← okfl (xs := xs)]; exact q, fun q => ⟨_, rfl, by rw [okfl]; exact q⟩⟩
theorem itS_sc {xs : List MV} {h : MHp} {R : MR} : @itS (.sc xs) h ⟨R⟩ = R xs okT h := propext ⟨fun ⟨_, e, q⟩ => by cases e; rw [← oksc (xs := xs)]; exact q, fun q => ⟨_, rfl, by rw [oksc]; exact q⟩⟩
theorem itS_ref {n : Nat} {h : MHp} {R : MR} : @itS (.ref n) h ⟨R⟩ = @withC h[n]? ⟨fun xs => R xs (fun h' => lstOf h' (.ref n) = some xs) h⟩ := withC_rf Iff.rfl
theorem eS_tup {xs : List MV} {h : MHp} {R : MR} : @eS [.tup xs] h ⟨R⟩ = R (enumL xs) okT h := rfl
theorem eS_fl {xs : List MV} {h : MHp} {R : MR} : @eS [.fl xs] h ⟨R⟩ = R (enumL xs) okT h := propext ⟨fun ⟨_, e, q⟩ => by cases e; rw [← okfl (xs := xs)]; exact q, fun q => ⟨_, rfl, by rw [okfl]; exact q⟩⟩
theorem eS_sc {xs : List MV} {h : MHp} {R : MR} : @eS [.sc xs] h ⟨R⟩ = R (enumL xs) okT h := propext ⟨fun ⟨_, e, q⟩ => by cases e; rw [← oksc (xs := xs)]; exact q, fun q => ⟨_, rfl, by rw [oksc]; exact q⟩⟩
theorem eS_ref {n : Nat} {h : MHp} {R : MR} : @eS [.ref n] h ⟨R⟩ = @withC h[n]? ⟨fun xs => R (enumL xs) (fun h' => lstOf h' (.ref n) = some xs) h⟩ := withC_rf Iff.rfl
theorem zS_tup {xs ys : List MV} {h : MHp} {R : MR} : @zS [.tup xs, .tup ys] h ⟨R⟩ = R (zipL xs ys) okT h := rfl
theorem zS_fl {xs ys : List MV} {h : MHp} {R : MR} : @zS [.fl xs, .fl ys] h ⟨R⟩ = R (zipL xs ys) okT h := by
  have e : (fun h' => lstOf h' (.fl xs) = some xs ∧ lstOf h' (.fl ys) = some ys) = okT := funext fun _ => propext ⟨fun _ => trivial, fun _ => ⟨rfl, rfl⟩⟩
  exact propext ⟨fun ⟨_, _, e1, e2, q⟩ => by cases e1; cases e2; rw [← e]; exact q, fun q => ⟨_, _, rfl, rfl, by rw [e]; exact q⟩⟩
theorem rS1_at {j : Int} {h : MHp} {R : MR} : @rS1 [.int j] h ⟨R⟩ = ((j < 2 ^ 62 ∧ -(2 ^ 62) ≤ j) ∧ R ((irng 0 j).map .int) okT h) := by
  show (_ ∧ _ ∧ R (rng 0 j) _ h) = _
  rw [rng_irng, and_assoc] <;> rfl
theorem rS2_at {i j : Int} {h : MHp} {R : MR} : @rS2 [.int i, .int j] h ⟨R⟩ = (((i < 2 ^ 62 ∧ -(2 ^ 62) ≤ i) ∧ (j < 2 ^ 62 ∧ -(2 ^ 62) ≤ j)) ∧ R ((irng i j).map .int) okT h) := by
  show (_ ∧ _ ∧ R (rng i j) _ h) = _
  rw [rng_irng, ← and_assoc] <;> rfl
theorem rg1_at {a : ME} {s : MSt} {h : MHp} {Q : Int → Int → MHp → Prop} {E : MQ} : rg1 a s h Q E = a s h (fun v h1 => @iV v h1 ⟨fun j h1 => Q 0 j h1⟩) E := rfl
theorem rg2_at {a b : ME} {s : MSt} {h : MHp} {Q : Int → Int → MHp → Prop} {E : MQ} : rg2 a b s h Q E = a s h (fun v h1 => b s h1 (fun u h2 => @iV v h2 ⟨fun i h2 => @iV u h2 ⟨fun j h2 => Q i j h2⟩⟩) E) E := by
  unfold rg2
  congr 1; funext v h1; congr 1; funext u h2
  exact propext ⟨fun ⟨i, j, e1, e2, q⟩ => ⟨i, e1, j, e2, q⟩, fun ⟨i, e1, j, e2, q⟩ => ⟨i, j, e1, e2, q⟩⟩
theorem mLstRg_at {m : MG2} {s : MSt} {h : MHp} {Q E : MQ} : mLstRg m s h Q E = m s h (fun a b h1 => RgOk a b ∧ Q (.fl ((irng a b).map .int)) h1) E := by simp only [mLstRg, rng_irng]
theorem mLstRgC_at {m : MG2} {s : MSt} {h : MHp} {Q E : MQ} : mLstRgC m s h Q E = m s h (fun a b h1 => RgOk a b ∧ Q (.ref h1.length) (h1 ++ [.lst ((irng a b).map .int)])) E := by simp only [mLstRgC, rng_irng]
theorem mTupRg_at {m : MG2} {s : MSt} {h : MHp} {Q E : MQ} : mTupRg m s h Q E = m s h (fun a b h1 => RgOk a b ∧ Q (.tup ((irng a b).map .int)) h1) E := by simp only [mTupRg, rng_irng]
theorem mRaise_at {c : Nat} {a : ME} {s : MSt} {h : MHp} {N : MSt → MHp → Prop} {R : MQ} {B C : MSt → MHp → Prop} {X : MV → MSt → MHp → Prop} : mRaise c a s h ⟨N, R, B, C, X⟩ = a s h (fun _ h1 => X (.ex c []) s h1) (fun e h' => X e s h') := rfl
def xS (has : List Nat) (e : MV) [k : Hold (Nat → Prop)] : Prop := ∃ c xs, e = .ex c xs ∧ c ∈ has ∧ k.val c
theorem xS_at {has : List Nat} {c : Nat} {xs : List MV} {k : Nat → Prop} : @xS has (.ex c xs) ⟨k⟩ = (c ∈ has ∧ k c) := propext ⟨fun ⟨_, _, e, h1, h2⟩ => by cases e; exact ⟨h1, h2⟩, fun ⟨h1, h2⟩ => ⟨_, _, rfl, h1, h2⟩⟩
theorem mTry_at {has : List Nat} {j i : Nat} {m ms : MS} {s : MSt} {h : MHp} {N : MSt → MHp → Prop} {R : MQ} {B C : MSt → MHp → Prop} {X : MV → MSt → MHp → Prop} : mTry has j i m ms s h ⟨N, R, B, C, X⟩ = @kb ⟨m⟩ s h ⟨{ nx := N, rt := R, bk := B, ct := C, ex := fun e s' h' => @xS has e ⟨fun c => @ifB (subX c j) ⟨@kb ⟨ms⟩ (s'.set i (some e)) h' ⟨{ nx := fun s2 h2 => N (s2.set i none) h2, rt := R, bk := fun s2 h2 => B (s2.set i none) h2, ct := fun s2 h2 => C (s2.set i none) h2, ex := fun _ _ _ => False }⟩⟩ ⟨X e s' h'⟩⟩}⟩ := rfl
theorem o2_sub {i j : Int} {h : MHp} {Q : MQ} : @o2 subM (.int i) (.int j) h ⟨Q⟩ = Q (.int (i - j)) h := propext ⟨fun q => q.2, fun q => ⟨trivial, q⟩⟩
theorem o2_mod {i j : Int} {h : MHp} {Q : MQ} : @o2 modM (.int i) (.int j) h ⟨Q⟩ = (j ≠ 0 ∧ Q (.int (i.fmod j)) h) := rfl
theorem o2_fdiv {i j : Int} {h : MHp} {Q : MQ} : @o2 fdivM (.int i) (.int j) h ⟨Q⟩ = (CDivN i j ∧ Q (.int (i.fdiv j)) h) := rfl
theorem o2_pow {i j : Int} {h : MHp} {Q : MQ} : @o2 powM (.int i) (.int j) h ⟨Q⟩ = (CPow i j ∧ Q (.int (i ^ j.toNat)) h) := rfl
theorem o2_lt {i j : Int} {h : MHp} {Q : MQ} : @o2 ltM (.int i) (.int j) h ⟨Q⟩ = Q (.bl (decide (i < j))) h := propext ⟨fun q => q.2, fun q => ⟨trivial, q⟩⟩
theorem o2_le {i j : Int} {h : MHp} {Q : MQ} : @o2 leM (.int i) (.int j) h ⟨Q⟩ = Q (.bl (decide (i ≤ j))) h := propext ⟨fun q => q.2, fun q => ⟨trivial, q⟩⟩
theorem o2_gt {i j : Int} {h : MHp} {Q : MQ} : @o2 gtM (.int i) (.int j) h ⟨Q⟩ = Q (.bl (decide (j < i))) h := propext ⟨fun q => q.2, fun q => ⟨trivial, q⟩⟩
theorem o2_ge {i j : Int} {h : MHp} {Q : MQ} : @o2 geM (.int i) (.int j) h ⟨Q⟩ = Q (.bl (decide (j ≤ i))) h := propext ⟨fun q => q.2, fun q => ⟨trivial, q⟩⟩
theorem o2_eqi {i j : Int} {h : MHp} {Q : MQ} : @o2 eqM (.int i) (.int j) h ⟨Q⟩ = Q (.bl (i == j)) h := propext eqM_int
theorem o2_nei {i j : Int} {h : MHp} {Q : MQ} : @o2 neM (.int i) (.int j) h ⟨Q⟩ = Q (.bl (!(i == j))) h := propext neM_int
theorem o2_eqs {x y : Str} {h : MHp} {Q : MQ} : @o2 eqM (.str x) (.str y) h ⟨Q⟩ = Q (.bl (x == y)) h := propext ⟨fun q => q.elim (fun ⟨_, _, e1, e2, q⟩ => by cases e1; cases e2; exact q) fun q => q.2.2, fun q => .inl ⟨_, _, rfl, rfl, q⟩⟩
theorem o2_nes {x y : Str} {h : MHp} {Q : MQ} : @o2 neM (.str x) (.str y) h ⟨Q⟩ = Q (.bl (!(x == y))) h := propext ⟨fun q => q.elim (fun ⟨_, _, e1, e2, q⟩ => by cases e1; cases e2; exact q) fun q => q.2.2, fun q => .inl ⟨_, _, rfl, rfl, q⟩⟩
theorem o2_addi {i j : Int} {h : MHp} {Q : MQ} : @o2 plusM (.int i) (.int j) h ⟨Q⟩ = Q (.int (i + j)) h := rfl
theorem o2_adds {x y : Str} {h : MHp} {Q : MQ} : @o2 plusM (.str x) (.str y) h ⟨Q⟩ = (x.length + y.length ≤ sizeLine ∧ Q (.str (x ++ y)) h) := rfl
theorem o2_addt {xs ys : List MV} {h : MHp} {Q : MQ} : @o2 plusM (.tup xs) (.tup ys) h ⟨Q⟩ = (xs.length + ys.length ≤ sizeLine ∧ Q (.tup (xs ++ ys)) h) := rfl
theorem o2_addl {xs ys : List MV} {h : MHp} {Q : MQ} : @o2 plusM (.fl xs) (.fl ys) h ⟨Q⟩ = (xs.length + ys.length ≤ sizeLine ∧ Q (.fl (xs ++ ys)) h) := propext ⟨fun ⟨_, _, e1, e2, q⟩ => by cases e1; cases e2; exact q, fun q => ⟨_, _, rfl, rfl, q⟩⟩
theorem lstM_ref {h : MHp} {n : Nat} : catF.lstM h (.ref n) = (match h[n]? with | some (.lst xs) => some xs | _ => none) := rfl
theorem with2 {c : Option Cell} {o : Option (List MV)} {P : Prop} {k : List MV → List MV → Prop} {ys : List MV} (ho : o = some ys) (e : P = ∃ xs zs, (match c with | some (.lst xs) => some xs | _ => none) = some xs ∧ o = some zs ∧ k xs zs) : P = @withC c ⟨fun xs => k xs ys⟩ := by
  rw [e, ho]
  unfold withC
  split <;> simp
theorem o2_addrl {n : Nat} {ys : List MV} {h : MHp} {Q : MQ} : @o2 plusM (.ref n) (.fl ys) h ⟨Q⟩ = @withC h[n]? ⟨fun xs => xs.length + ys.length ≤ sizeLine ∧ Q (.fl (xs ++ ys)) h⟩ := with2 (o := some ys) rfl rfl
theorem o2_addlr {n : Nat} {xs : List MV} {h : MHp} {Q : MQ} : @o2 plusM (.fl xs) (.ref n) h ⟨Q⟩ = @withC h[n]? ⟨fun ys => xs.length + ys.length ≤ sizeLine ∧ Q (.fl (xs ++ ys)) h⟩ := propext ⟨fun ⟨a, b, e1, e2, q⟩ => by
    cases e1
    rw [lstM_ref] at e2
    unfold withC
    split at e2 <;> simp_all, fun q => by
    unfold withC at q
    split at q
    · rename_i ys e; exact ⟨xs, ys, rfl, by rw [lstM_ref, e], q⟩
    · exact q.elim⟩
theorem o2_addrr {n m : Nat} {h : MHp} {Q : MQ} : @o2 plusM (.ref n) (.ref m) h ⟨Q⟩ = @withC h[n]? ⟨fun xs => @withC h[m]? ⟨fun ys => xs.length + ys.length ≤ sizeLine ∧ Q (.fl (xs ++ ys)) h⟩⟩ := propext ⟨fun ⟨a, b, e1, e2, q⟩ => by
    rw [lstM_ref] at e1 e2
    unfold withC
    split at e1 <;> split at e2 <;> simp_all, fun q => by
    unfold withC at q
    split at q
    · rename_i xs e
      replace q := (show @withC _ ⟨_⟩ from q)
      unfold withC at q
      split at q
      · rename_i ys e2; exact ⟨xs, ys, by rw [lstM_ref, e], by rw [lstM_ref, e2], q⟩
      · exact q.elim
    · exact q.elim⟩
theorem o2_catCrl {n : Nat} {ys : List MV} {h : MHp} {Q : MQ} : @o2 catC (.ref n) (.fl ys) h ⟨Q⟩ = @withC h[n]? ⟨fun xs => xs.length + ys.length ≤ sizeLine ∧ Q (.ref h.length) (h ++ [.lst (xs ++ ys)])⟩ := with2 (o := some ys) rfl rfl
theorem o2_catCll {xs ys : List MV} {h : MHp} {Q : MQ} : @o2 catC (.fl xs) (.fl ys) h ⟨Q⟩ = (xs.length + ys.length ≤ sizeLine ∧ Q (.ref h.length) (h ++ [.lst (xs ++ ys)])) := propext ⟨fun ⟨_, _, e1, e2, q⟩ => by cases e1; cases e2; exact q, fun q => ⟨_, _, rfl, rfl, q⟩⟩
theorem o2_muli {i k : Int} {h : MHp} {Q : MQ} : @o2 mulM2 (.int i) (.int k) h ⟨Q⟩ = (CMul i k ∧ Q (.int (i * k)) h) := rfl
theorem o2_mult {xs : List MV} {k : Int} {h : MHp} {Q : MQ} : @o2 mulM2 (.tup xs) (.int k) h ⟨Q⟩ = ((1 ≤ k ∧ k ≤ 1000 ∧ xs.length ≤ 1000) ∧ Q (.tup (List.replicate k.toNat xs).flatten) h) := propext ⟨fun ⟨a, b, c, q⟩ => ⟨⟨a, b, c⟩, q⟩, fun ⟨⟨a, b, c⟩, q⟩ => ⟨a, b, c, q⟩⟩
theorem o2_mull {xs : List MV} {k : Int} {h : MHp} {Q : MQ} : @o2 mulM2 (.fl xs) (.int k) h ⟨Q⟩ = ((-(2 ^ 63) ≤ k ∧ k < 2 ^ 63 ∧ xs.length * k.toNat ≤ sizeLine) ∧ Q (.fl (List.replicate k.toNat xs).flatten) h) := propext ⟨fun ⟨a, b, c, q⟩ => ⟨⟨a, b, c⟩, q⟩, fun ⟨⟨a, b, c⟩, q⟩ => ⟨a, b, c, q⟩⟩
theorem o2_mullC {xs : List MV} {k : Int} {h : MHp} {Q : MQ} : @o2 mulMC (.fl xs) (.int k) h ⟨Q⟩ = ((-(2 ^ 63) ≤ k ∧ k < 2 ^ 63 ∧ xs.length * k.toNat ≤ sizeLine) ∧ Q (.ref h.length) (h ++ [.lst (List.replicate k.toNat xs).flatten])) := propext ⟨fun ⟨a, b, c, q⟩ => ⟨⟨a, b, c⟩, q⟩, fun ⟨⟨a, b, c⟩, q⟩ => ⟨a, b, c, q⟩⟩
theorem o1_neg {i : Int} {h : MHp} {Q : MQ} : @o1 negM (.int i) h ⟨Q⟩ = Q (.int (-i)) h := rfl
theorem o1_not {i : Bool} {h : MHp} {Q : MQ} : @o1 notM (.bl i) h ⟨Q⟩ = Q (.bl (!i)) h := rfl
theorem o2_is {v : MV} {h : MHp} {Q : MQ} : @o2 isM2 v .non h ⟨Q⟩ = Q (.bl (isNoneM v)) h := rfl
theorem o2_isnot {v : MV} {h : MHp} {Q : MQ} : @o2 isNotM2 v .non h ⟨Q⟩ = Q (.bl (!isNoneM v)) h := rfl
theorem o2_isb {a b : Bool} {h : MHp} {Q : MQ} : @o2 isM2 (.bl a) (.bl b) h ⟨Q⟩ = Q (.bl (decide (a = b))) h := rfl
theorem o2_isnotb {a b : Bool} {h : MHp} {Q : MQ} : @o2 isNotM2 (.bl a) (.bl b) h ⟨Q⟩ = Q (.bl (!decide (a = b))) h := rfl
theorem ixM_ev {v u : MV} {o : Option MV} {h : MHp} {Q : MQ} (e : ixV h v u = o) : @o2 ixM v u h ⟨Q⟩ = @withV o ⟨fun x => Q x h⟩ := by
  refine propext ⟨fun ⟨x, e1, q⟩ => ?_, fun q => ?_⟩
  · rw [e] at e1; rw [e1]; exact q
  · unfold withV at q; split at q
    · exact ⟨_, e, q⟩
    · exact q.elim
theorem o2_ixt {xs : List MV} {i : Int} {h : MHp} {Q : MQ} : @o2 ixM (.tup xs) (.int i) h ⟨Q⟩ = @withV (atI xs i) ⟨fun x => Q x h⟩ := ixM_ev rfl
theorem o2_ixl {xs : List MV} {i : Int} {h : MHp} {Q : MQ} : @o2 ixM (.fl xs) (.int i) h ⟨Q⟩ = @withV (atI xs i) ⟨fun x => Q x h⟩ := ixM_ev rfl
theorem o2_ixs {xs : List MV} {i : Int} {h : MHp} {Q : MQ} : @o2 ixM (.sc xs) (.int i) h ⟨Q⟩ = @withV (atI xs i) ⟨fun x => Q x h⟩ := ixM_ev rfl
theorem o2_ixr {n : Nat} {i : Int} {h : MHp} {Q : MQ} : @o2 ixM (.ref n) (.int i) h ⟨Q⟩ = @withC h[n]? ⟨fun xs => @withV (atI xs i) ⟨fun x => Q x h⟩⟩ := by
  cases e : h[n]? with
  | none => exact (ixM_ev (o := none) (by simp [ixV, seqOf, lstOf, e])).trans rfl
  | some c => cases c with
    | lst xs => rw [withC_l]; exact ixM_ev (by simp [ixV, seqOf, lstOf, e])
    | _ => exact (ixM_ev (o := none) (by simp [ixV, seqOf, lstOf, e])).trans rfl
theorem o1_revt {xs : List MV} {h : MHp} {Q : MQ} : @o1 revM (.tup xs) h ⟨Q⟩ = Q (.tup xs.reverse) h := rfl
theorem o1_revl {xs : List MV} {h : MHp} {Q : MQ} : @o1 revM (.fl xs) h ⟨Q⟩ = Q (.fl xs.reverse) h := propext ⟨fun ⟨_, e, q⟩ => by cases e; exact q, fun q => ⟨_, rfl, q⟩⟩
theorem o1_revr {n : Nat} {h : MHp} {Q : MQ} : @o1 revM (.ref n) h ⟨Q⟩ = @withC h[n]? ⟨fun xs => Q (.fl xs.reverse) h⟩ := withC_rf Iff.rfl
theorem oN_lent {xs : List MV} {h : MHp} {Q : MQ} : @oN lenM [.tup xs] h ⟨Q⟩ = Q (.int xs.length) h := propext ⟨fun ⟨_, _, e1, e2, q⟩ => by cases e1; cases e2; exact q, fun q => ⟨_, _, rfl, rfl, q⟩⟩
theorem oN_lenl {xs : List MV} {h : MHp} {Q : MQ} : @oN lenM [.fl xs] h ⟨Q⟩ = Q (.int xs.length) h := propext ⟨fun ⟨_, _, e1, e2, q⟩ => by cases e1; cases e2; exact q, fun q => ⟨_, _, rfl, rfl, q⟩⟩
theorem oN_lens {xs : List MV} {h : MHp} {Q : MQ} : @oN lenM [.sc xs] h ⟨Q⟩ = Q (.int xs.length) h := propext ⟨fun ⟨_, _, e1, e2, q⟩ => by cases e1; cases e2; exact q, fun q => ⟨_, _, rfl, rfl, q⟩⟩
theorem oN_lenr {n : Nat} {h : MHp} {Q : MQ} : @oN lenM [.ref n] h ⟨Q⟩ = @withC h[n]? ⟨fun xs => Q (.int xs.length) h⟩ := by
  cases e : h[n]? with
  | none => exact propext ⟨fun ⟨_, _, e1, e2, q⟩ => by cases e1; simp [seqOf, lstOf, e] at e2, fun z => z.elim⟩
  | some c => cases c with
    | lst xs => exact propext ⟨fun ⟨_, _, e1, e2, q⟩ => by cases e1; simp only [seqOf, lstOf, e, Option.some.injEq] at e2; cases e2; exact q, fun q => ⟨_, xs, rfl, by simp [seqOf, lstOf, e], q⟩⟩
    | _ => exact propext ⟨fun ⟨_, _, e1, e2, q⟩ => by cases e1; simp [seqOf, lstOf, e] at e2, fun z => z.elim⟩
theorem oN_listt {xs : List MV} {h : MHp} {Q : MQ} : @oN listM [.tup xs] h ⟨Q⟩ = Q (.fl xs) h := propext ⟨fun ⟨_, _, e1, e2, q⟩ => by cases e1; cases e2; exact q, fun q => ⟨_, _, rfl, rfl, q⟩⟩
theorem oN_listl {xs : List MV} {h : MHp} {Q : MQ} : @oN listM [.fl xs] h ⟨Q⟩ = Q (.fl xs) h := propext ⟨fun ⟨_, _, e1, e2, q⟩ => by cases e1; cases e2; exact q, fun q => ⟨_, _, rfl, rfl, q⟩⟩
theorem oN_lists {xs : List MV} {h : MHp} {Q : MQ} : @oN listM [.sc xs] h ⟨Q⟩ = Q (.fl xs) h := propext ⟨fun ⟨_, _, e1, e2, q⟩ => by cases e1; cases e2; exact q, fun q => ⟨_, _, rfl, rfl, q⟩⟩
theorem oN_listr {n : Nat} {h : MHp} {Q : MQ} : @oN listM [.ref n] h ⟨Q⟩ = @withC h[n]? ⟨fun xs => Q (.fl xs) h⟩ := by
  cases e : h[n]? with
  | none => exact propext ⟨fun ⟨_, _, e1, e2, q⟩ => by cases e1; simp [seqOf, lstOf, e] at e2, fun z => z.elim⟩
  | some c => cases c with
    | lst xs => exact propext ⟨fun ⟨_, _, e1, e2, q⟩ => by cases e1; simp only [seqOf, lstOf, e, Option.some.injEq] at e2; cases e2; exact q, fun q => ⟨_, xs, rfl, by simp [seqOf, lstOf, e], q⟩⟩
    | _ => exact propext ⟨fun ⟨_, _, e1, e2, q⟩ => by cases e1; simp [seqOf, lstOf, e] at e2, fun z => z.elim⟩
theorem oN_listCt {xs : List MV} {h : MHp} {Q : MQ} : @oN listMC [.tup xs] h ⟨Q⟩ = Q (.ref h.length) (h ++ [.lst xs]) := propext ⟨fun ⟨_, _, e1, e2, q⟩ => by cases e1; cases e2; exact q, fun q => ⟨_, _, rfl, rfl, q⟩⟩
theorem oN_listCl {xs : List MV} {h : MHp} {Q : MQ} : @oN listMC [.fl xs] h ⟨Q⟩ = Q (.ref h.length) (h ++ [.lst xs]) := propext ⟨fun ⟨_, _, e1, e2, q⟩ => by cases e1; cases e2; exact q, fun q => ⟨_, _, rfl, rfl, q⟩⟩
theorem oN_listCs {xs : List MV} {h : MHp} {Q : MQ} : @oN listMC [.sc xs] h ⟨Q⟩ = Q (.ref h.length) (h ++ [.lst xs]) := propext ⟨fun ⟨_, _, e1, e2, q⟩ => by cases e1; cases e2; exact q, fun q => ⟨_, _, rfl, rfl, q⟩⟩
theorem oN_listCr {n : Nat} {h : MHp} {Q : MQ} : @oN listMC [.ref n] h ⟨Q⟩ = @withC h[n]? ⟨fun xs => Q (.ref h.length) (h ++ [.lst xs])⟩ := by
  cases e : h[n]? with
  | none => exact propext ⟨fun ⟨_, _, e1, e2, q⟩ => by cases e1; simp [seqOf, lstOf, e] at e2, fun z => z.elim⟩
  | some c => cases c with
    | lst xs => exact propext ⟨fun ⟨_, _, e1, e2, q⟩ => by cases e1; simp only [seqOf, lstOf, e, Option.some.injEq] at e2; cases e2; exact q, fun q => ⟨_, xs, rfl, by simp [seqOf, lstOf, e], q⟩⟩
    | _ => exact propext ⟨fun ⟨_, _, e1, e2, q⟩ => by cases e1; simp [seqOf, lstOf, e] at e2, fun z => z.elim⟩
theorem oN_tuplet {xs : List MV} {h : MHp} {Q : MQ} : @oN tupleM [.tup xs] h ⟨Q⟩ = Q (.tup xs) h := propext ⟨fun ⟨_, _, e1, e2, q⟩ => by cases e1; cases e2; exact q, fun q => ⟨_, _, rfl, rfl, q⟩⟩
theorem oN_tuplel {xs : List MV} {h : MHp} {Q : MQ} : @oN tupleM [.fl xs] h ⟨Q⟩ = Q (.tup xs) h := propext ⟨fun ⟨_, _, e1, e2, q⟩ => by cases e1; cases e2; exact q, fun q => ⟨_, _, rfl, rfl, q⟩⟩
theorem oN_tuples {xs : List MV} {h : MHp} {Q : MQ} : @oN tupleM [.sc xs] h ⟨Q⟩ = Q (.tup xs) h := propext ⟨fun ⟨_, _, e1, e2, q⟩ => by cases e1; cases e2; exact q, fun q => ⟨_, _, rfl, rfl, q⟩⟩
theorem oN_tupler {n : Nat} {h : MHp} {Q : MQ} : @oN tupleM [.ref n] h ⟨Q⟩ = @withC h[n]? ⟨fun xs => Q (.tup xs) h⟩ := by
  cases e : h[n]? with
  | none => exact propext ⟨fun ⟨_, _, e1, e2, q⟩ => by cases e1; simp [seqOf, lstOf, e] at e2, fun z => z.elim⟩
  | some c => cases c with
    | lst xs => exact propext ⟨fun ⟨_, _, e1, e2, q⟩ => by cases e1; simp only [seqOf, lstOf, e, Option.some.injEq] at e2; cases e2; exact q, fun q => ⟨_, xs, rfl, by simp [seqOf, lstOf, e], q⟩⟩
    | _ => exact propext ⟨fun ⟨_, _, e1, e2, q⟩ => by cases e1; simp [seqOf, lstOf, e] at e2, fun z => z.elim⟩
theorem oN_inti {i : Int} {h : MHp} {Q : MQ} : @oN intM [.int i] h ⟨Q⟩ = Q (.int i) h := rfl
theorem oN_intb {b : Bool} {h : MHp} {Q : MQ} : @oN intM [.bl b] h ⟨Q⟩ = Q (.int (if b then 1 else 0)) h := rfl
theorem oN_boolb {b : Bool} {h : MHp} {Q : MQ} : @oN boolM [.bl b] h ⟨Q⟩ = Q (.bl b) h := rfl
theorem oN_min2 {i j : Int} {h : MHp} {Q : MQ} : @oN min2M [.int i, .int j] h ⟨Q⟩ = Q (.int (if j < i then j else i)) h := rfl
theorem oN_max2 {i j : Int} {h : MHp} {Q : MQ} : @oN max2M [.int i, .int j] h ⟨Q⟩ = Q (.int (if j > i then j else i)) h := rfl
theorem blsOf_map : ∀ bs : List Bool, blsOf (bs.map MV.bl) = some bs
  | [] => rfl
  | b :: bs => by simp [blsOf, blsOf_map bs]
theorem intsOf_map : ∀ bs : List Int, intsOf (bs.map MV.int) = some bs
  | [] => rfl
  | b :: bs => by simp [intsOf, intsOf_map bs]
theorem oN_all {bs : List Bool} {h : MHp} {Q : MQ} : @oN allM [.fl (bs.map MV.bl)] h ⟨Q⟩ = Q (.bl (bs.all _root_.id)) h := propext ⟨fun ⟨_, _, ns, e1, e2, e3, q⟩ => by cases e1; cases e2; rw [blsOf_map] at e3; cases e3; exact q, fun q => ⟨_, _, bs, rfl, rfl, blsOf_map bs, q⟩⟩
theorem oN_any {bs : List Bool} {h : MHp} {Q : MQ} : @oN anyM [.fl (bs.map MV.bl)] h ⟨Q⟩ = Q (.bl (bs.any _root_.id)) h := propext ⟨fun ⟨_, _, ns, e1, e2, e3, q⟩ => by cases e1; cases e2; rw [blsOf_map] at e3; cases e3; exact q, fun q => ⟨_, _, bs, rfl, rfl, blsOf_map bs, q⟩⟩
theorem oN_sum {bs : List Int} {h : MHp} {Q : MQ} : @oN sumM [.fl (bs.map MV.int)] h ⟨Q⟩ = Q (.int (bs.sum)) h := propext ⟨fun ⟨_, _, ns, e1, e2, e3, q⟩ => by cases e1; cases e2; rw [intsOf_map] at e3; cases e3; exact q, fun q => ⟨_, _, bs, rfl, rfl, intsOf_map bs, q⟩⟩
theorem oN_sum2l {bs : List Int} {h : MHp} {Q : MQ} : @oN sumM2 [.fl (bs.map MV.int)] h ⟨Q⟩ = Q (.int bs.sum) h := propext ⟨fun ⟨_, _, ns, e1, e2, e3, q⟩ => by cases e1; cases e2; rw [intsOf_map] at e3; cases e3; exact q, fun q => ⟨_, _, bs, rfl, rfl, intsOf_map bs, q⟩⟩
theorem oN_sum2t {bs : List Int} {h : MHp} {Q : MQ} : @oN sumM2 [.tup (bs.map MV.int)] h ⟨Q⟩ = Q (.int bs.sum) h := propext ⟨fun ⟨_, _, ns, e1, e2, e3, q⟩ => by cases e1; cases e2; rw [intsOf_map] at e3; cases e3; exact q, fun q => ⟨_, _, bs, rfl, rfl, intsOf_map bs, q⟩⟩
theorem cell_r {h : MHp} {n : Nat} {xs : List MV} (e : h[n]? = some (.lst xs)) : cellOf h (.ref n) = some (n, xs) := by simp [cellOf, e]
theorem cell_n {h : MHp} {n : Nat} (e : ∀ xs, h[n]? ≠ some (.lst xs)) : cellOf h (.ref n) = none := by
  unfold cellOf
  dsimp only
  split
  · exact absurd (by assumption) (e _)
  · rfl
theorem om_append {n : Nat} {y : MV} {h : MHp} {Q : MQ} : @oM' appendM (.ref n) [y] h ⟨Q⟩ = @withC h[n]? ⟨fun xs => xs.length < sizeLine ∧ Q .non (h.set n (.lst (xs ++ [y])))⟩ := withC_of (fun xs e => ⟨fun ⟨m, zs, w, e1, e2, q⟩ => by rw [cell_r e] at e1; cases e1; cases e2; exact q, fun q => ⟨n, xs, y, cell_r e, rfl, q⟩⟩) fun hn ⟨m, zs, w, e1, _⟩ => by rw [cell_n hn] at e1; cases e1
theorem om_pop {n : Nat} {h : MHp} {Q : MQ} : @oM' popM (.ref n) [] h ⟨Q⟩ = @withC h[n]? ⟨fun xs => @withV xs[xs.length - 1]? ⟨fun y => Q y (h.set n (.lst xs.dropLast))⟩⟩ := withC_of (fun xs e => ⟨fun ⟨m, zs, w, e1, _, e3, q⟩ => by rw [cell_r e] at e1; cases e1; rw [e3]; exact q, fun q => by
    unfold withV at q
    split at q
    · rename_i w e3; exact ⟨n, xs, w, cell_r e, rfl, e3, q⟩
    · exact q.elim⟩) fun hn ⟨m, zs, w, e1, _⟩ => by rw [cell_n hn] at e1; cases e1
theorem om_insert {n : Nat} {i : Int} {y : MV} {h : MHp} {Q : MQ} : @oM' insertM (.ref n) [.int i, y] h ⟨Q⟩ = @withC h[n]? ⟨fun xs => (xs.length < sizeLine ∧ 0 ≤ i ∧ i < 2 ^ 63) ∧ Q .non (h.set n (.lst (xs.take i.toNat ++ [y] ++ xs.drop i.toNat)))⟩ := withC_of (fun xs e => ⟨fun ⟨m, zs, j, w, e1, e2, a, b, c, q⟩ => by rw [cell_r e] at e1; cases e1; cases e2; exact ⟨⟨a, b, c⟩, q⟩, fun ⟨⟨a, b, c⟩, q⟩ => ⟨n, xs, i, y, cell_r e, rfl, a, b, c, q⟩⟩) fun hn ⟨m, zs, j, w, e1, _⟩ => by rw [cell_n hn] at e1; cases e1
theorem om_extl {n : Nat} {ys : List MV} {h : MHp} {Q : MQ} : @oM' extendM (.ref n) [.fl ys] h ⟨Q⟩ = @withC h[n]? ⟨fun xs => xs.length + ys.length ≤ sizeLine ∧ Q .non (h.set n (.lst (xs ++ ys)))⟩ := withC_of (fun xs e => ⟨fun ⟨m, zs, w, us, e1, e2, e3, q⟩ => by
    rw [cell_r e] at e1; cases e1; cases e2
    rcases e3 with ⟨_, e3, rfl⟩ | ⟨_, e3⟩
    · cases e3; exact q
    · simp [cellOf] at e3, fun q => ⟨n, xs, _, ys, cell_r e, rfl, .inl ⟨_, rfl, rfl⟩, q⟩⟩) fun hn ⟨m, zs, w, us, e1, _⟩ => by rw [cell_n hn] at e1; cases e1
theorem om_extr {n k : Nat} {h : MHp} {Q : MQ} : @oM' extendM (.ref n) [.ref k] h ⟨Q⟩ = @withC h[n]? ⟨fun xs => @withC h[k]? ⟨fun ys => xs.length + ys.length ≤ sizeLine ∧ Q .non (h.set n (.lst (xs ++ ys)))⟩⟩ := withC_of (fun xs e => ⟨fun ⟨m, zs, w, us, e1, e2, e3, q⟩ => by
    rw [cell_r e] at e1; cases e1; cases e2
    rcases e3 with ⟨_, e3, _⟩ | ⟨k', e3⟩
    · cases e3
    · unfold cellOf at e3
      dsimp only at e3
      unfold withC
      split at e3 <;> simp_all, fun q => by
    unfold withC at q
    split at q
    · rename_i ys e2; exact ⟨n, xs, _, ys, cell_r e, rfl, .inr ⟨k, cell_r e2⟩, q⟩
    · exact q.elim⟩) fun hn ⟨m, zs, w, us, e1, _⟩ => by rw [cell_n hn] at e1; cases e1
theorem call_i {f : Sem} {vs : List MV} {h : MHp} {Q E : MQ} (k : f vs h Q E) : @call f vs h ⟨Q⟩ ⟨E⟩ := k
theorem mFn_i {md mx : Md} {np ns : Nat} {m : MS} {vs : List MV} {h : MHp} {Q E : MQ} (hl : vs.length = np) (k : @kb ⟨m⟩ (startM ns vs) h ⟨{ nx := fun _ h' => md h.length Q .non h', rt := md h.length Q, ex := fun e _ h' => mx h.length E e h' }⟩) : mFn md mx np ns m vs h Q E := ⟨hl, k⟩
theorem sd_le {n : Nat} (h : n ≤ 16777216) : n ≤ sizeLine := smallLine h
theorem sd_lt {n : Nat} (h : n < 16777216) : n < sizeLine := by rw [sizeLine_eq]; exact h
def mWp (m : MS) (ws : List Nat) : MS := fun s h D => m s h { D with nx := fun s' h' => D.nx (wipeM s' ws) h', ct := fun s' h' => D.ct (wipeM s' ws) h' }
theorem mWp_at {m : MS} {ws : List Nat} {s : MSt} {h : MHp} {N : MSt → MHp → Prop} {R : MQ} {B C : MSt → MHp → Prop} {X : MV → MSt → MHp → Prop} : mWp m ws s h ⟨N, R, B, C, X⟩ = m s h ⟨fun s' h' => N (wipeM s' ws) h', R, B, fun s' h' => C (wipeM s' ws) h', X⟩ := rfl
theorem wipe_rs {Y : Lay} {ι : Nat → Addr} {n : Nat} {H : Hp} {s : L2.St} {sm : MSt} (r : RS Y ι n H sm s) : ∀ ws : List Nat, RS Y ι n H (wipeM sm ws) s
  | [] => r
  | w :: ws => by
    have q := wipe_rs r ws
    refine ⟨by simp [wipeM, q.1], fun i x e => ?_⟩
    unfold wipeM at e
    by_cases hv : w = i
    · subst hv
      by_cases hl : w < (wipeM sm ws).length
      · rw [List.getElem?_set_self hl] at e
        cases e
      · rw [List.getElem?_eq_none (by simpa using hl)] at e
        cases e
    · rw [List.getElem?_set_ne hv] at e
      exact q.2 i x e
section
variable {Y : Lay} {W : WX} {X : Cx} {m : MS} {ws : List Nat} {st : Stmt} {sts : List Stmt}
theorem tm_wp {D : Ends} {s : L2.St} {H : Hp} (q : tMS Y W (mWp m ws) D s H) : tMS Y W m D s H := by
  obtain ⟨ι, sm, hm, Dm, hr, rs, q, td⟩ := q
  refine ⟨ι, sm, hm, _, hr, rs, q, ⟨fun sm' h' ι' H' s' hr' ex rs' q' => td.nx _ _ _ _ _ hr' ex (wipe_rs rs' ws) q', td.rt, td.bk, fun sm' h' ι' H' s' hr' ex rs' q' => td.ct _ _ _ _ _ hr' ex (wipe_rs rs' ws) q', td.ex⟩⟩
theorem sss_wp (h : SSs Y W X m sts) : SSs Y W X (mWp m ws) sts := pssI h fun D s H q => tm_wp q
end
def itm (t : MT) (elt : ME) (acc : List MV) [K : Hold (List MV → MHp → Prop)] (s : MSt) (h : MHp) : Prop := t s h (fun b h2 => if b = true then elt s h2 (fun v h3 => acc.length < sizeLine ∧ K.val (acc ++ [v]) h3) NoE else K.val acc h2) NoE
theorem itm_at {t : MT} {elt : ME} {acc : List MV} {K : List MV → MHp → Prop} {s : MSt} {h : MHp} : @itm t elt acc ⟨K⟩ s h = t s h (fun b h2 => @ifB b ⟨elt s h2 (fun v h3 => acc.length < sizeLine ∧ K (acc ++ [v]) h3) NoE⟩ ⟨K acc h2⟩) NoE := rfl
end Mini
namespace Mini
open PySem PySem.Spec PyProof.Rows L2
def mWb (ws : List Nat) (m : MS) : MS := fun s h D => m (wipeM s ws) h D
theorem mWb_at {ws : List Nat} {m : MS} {s : MSt} {h : MHp} {N : MSt → MHp → Prop} {R : MQ} {B C : MSt → MHp → Prop} {X : MV → MSt → MHp → Prop} : mWb ws m s h ⟨N, R, B, C, X⟩ = m (wipeM s ws) h ⟨N, R, B, C, X⟩ := rfl
def mForW (m : MI) (g : MG) (b : MS) (ws : List Nat) : MS := fun s h D => m s h (fun xs ok h1 => forM ok g b xs (wipeM s ws) h1 D) (fun e h' => D.ex e s h')
theorem mForW_at {m : MI} {g : MG} {b : MS} {ws : List Nat} {s : MSt} {h : MHp} {N : MSt → MHp → Prop} {R : MQ} {B C : MSt → MHp → Prop} {X : MV → MSt → MHp → Prop} : mForW m g b ws s h ⟨N, R, B, C, X⟩ = m s h (fun xs ok h1 => @loop ok g b xs (wipeM s ws) h1 ⟨⟨N, R, B, C, X⟩⟩) (fun e h' => X e s h') := rfl
def frzC (n : Nat) (h : MHp) : Cell → Cell
  | .lst xs => .lst (xs.map (frz n h 8))
  | .dct ep ks vs => .dct ep ks (vs.map (frz n h 8))
  | .ins c xs => .ins c (xs.map (frz n h 8))
  | c => c
def frzH (n : Nat) (h : MHp) : MHp := (h.take n).map (frzC n h)
def frzS (n : Nat) (h : MHp) (s : MSt) : MSt := s.map (Option.map (frz n h 8))
def sLo (n : Nat) (s : MSt) : Bool := s.all fun o => match o with
  | some v => v.lo n
  | none => true
def fzQ (n0 : Nat) [Q : Hold (MSt → MHp → Prop)] (s : MSt) (h : MHp) : Prop := Q.val s h ∨ ∃ n, n0 ≤ n ∧ n ≤ h.length ∧ (frzH n h).all (fun c => c.lo n) = true ∧ sLo n (frzS n h s) = true ∧ Q.val (frzS n h s) (frzH n h)
def mFz (m : MS) : MS := fun s h D => m s h { D with nx := @fzQ h.length ⟨D.nx⟩, ct := @fzQ h.length ⟨D.ct⟩ }
theorem mFz_at {m : MS} {s : MSt} {h : MHp} {N : MSt → MHp → Prop} {R : MQ} {B C : MSt → MHp → Prop} {X : MV → MSt → MHp → Prop} : mFz m s h ⟨N, R, B, C, X⟩ = m s h ⟨@fzQ h.length ⟨N⟩, R, B, @fzQ h.length ⟨C⟩, X⟩ := rfl
section
variable {Y : Lay} {ι ι' : Nat → Addr} {n n' : Nat} {H H' : Hp} {hm : MHp}
theorem frzH_len (hn : n ≤ hm.length) : (frzH n hm).length = n := by unfold frzH; rw [List.length_map, List.length_take]; omega
theorem frzAll (hr : HR Y ι hm H) (hn : n ≤ hm.length) : ∀ {xs : List MV} {vs : List V}, RepAll Y ι hm.length H xs vs → loAll n (xs.map (frz n hm 8)) = true → RepAll Y ι n H (xs.map (frz n hm 8)) vs
  | [], _, r, _ => by cases r; exact .nil
  | x :: xs, _, r, l => by
    cases r with
    | cons r1 r2 =>
      simp only [List.map_cons, loAll, Bool.and_eq_true] at l ⊢
      exact .cons (frz_rep hr hn 8 r1 l.1) (frzAll hr hn r2 l.2)
theorem HR.frz (hr : HR Y ι hm H) (hn : n ≤ hm.length) (o : (frzH n hm).all (fun c => c.lo n) = true) : HR Y ι (frzH n hm) H where
  inj := fun i j hi hj e => by
    rw [frzH_len hn] at hi hj
    exact hr.inj i j (by omega) (by omega) e
  cell := fun i c e => by
    rw [frzH_len hn]
    have hi : i < n := by have := (List.getElem?_eq_some_iff.mp e).1; rw [frzH_len hn] at this; exact this
    have hl := List.all_eq_true.mp o c (List.mem_of_getElem? e)
    unfold frzH at e
    rw [List.getElem?_map, List.getElem?_take_of_lt hi, Option.map_eq_some_iff] at e
    obtain ⟨d, hd, rfl⟩ := e
    have rc := hr.cell i d hd
    cases d with
    | lst xs => obtain ⟨vs, h1, r⟩ := rc; exact ⟨vs, h1, frzAll hr hn r hl⟩
    | dct ep ks xs =>
      obtain ⟨es, h1, g, r, r2⟩ := rc
      simp only [frzC, Cell.lo, Bool.and_eq_true] at hl
      exact ⟨es, h1, g, r.cut hn hl.1, frzAll hr hn r2 hl.2⟩
    | st xs => exact repC_drop hn rc hl
    | ins c xs => obtain ⟨dx, ys, h1, g, r⟩ := rc; exact ⟨dx, ys, h1, g, frzAll hr hn r hl⟩
  hid := fun a ha => ⟨(hr.hid a ha).1, fun i hi => (hr.hid a ha).2 i (by rw [frzH_len hn] at hi; omega)⟩
theorem RS.frz {sm : MSt} {s : L2.St} (hr : HR Y ι hm H) (hn : n ≤ hm.length) (rs : RS Y ι hm.length H sm s) (hl : sLo n (frzS n hm sm) = true) : RS Y ι n H (frzS n hm sm) s := by
  refine ⟨by unfold frzS; rw [List.length_map]; exact rs.1, fun i v e => ?_⟩
  have hv := List.all_eq_true.mp hl _ (List.mem_of_getElem? e)
  unfold frzS at e
  rw [List.getElem?_map, Option.map_eq_some_iff] at e
  obtain ⟨o, ho, e⟩ := e
  cases o with
  | none => cases e
  | some u =>
    cases e
    obtain ⟨x, hx, r⟩ := rs.2 i u ho
    exact ⟨x, hx, frz_rep hr hn 8 r hv⟩
end
section
variable {Y : Lay} {W : WX} {X : Cx} {m : MS} {ws : List Nat} {st : Stmt} {sts : List Stmt}
theorem tm_wb {D : Ends} {s : L2.St} {H : Hp} (q : tMS Y W (mWb ws m) D s H) : tMS Y W m D s H := by
  obtain ⟨ι, sm, hm, Dm, hr, rs, q, td⟩ := q
  exact ⟨ι, _, hm, _, hr, wipe_rs rs ws, q, td⟩
theorem ss_wb (h : SS Y W X m st) : SS Y W X (mWb ws m) st := psI h fun D s H q => tm_wb q
theorem ss_forW {mi : MI} {g : MG} {b : MS} {tg iter : Expr} {body : List Stmt} {pos : Pos} (hp : PassesOwn (model X.prog X.w) X.A X.env X.xe) (hc : X.calm = true) (hi : SI Y W X mi tg iter) (hg : SG Y W X g tg) (hb : SSs Y W X b body)
    (hs : ∀ x, foldedSetIterable iter X.env x = pure x := by intro _; rfl) : SS Y W X (mForW mi g b ws) (.For tg iter body [] pos) :=
  psI (ps_for hp hc hi hg hb hs) fun D s H ⟨ι, sm, hm, Dm, hr, rs, q, td⟩ => by
    refine ⟨ι, sm, hm, _, _, hr, rs, q, td.ex.ex hr.live rs, fun xs ok h1 ι1 H1 J hr1 e1 jr q1 => ?_⟩
    refine ⟨fun i k s' H' => ∃ ι' sm' hm' Dm', HR Y ι' hm' H' ∧ RS Y ι' hm'.length H' sm' s' ∧ forM ok g b (xs.drop i) sm' hm' Dm' ∧ TrD Y W ι' hm'.length H' Dm' D ∧ Ext h1.length hm'.length ι1 ι' H1 H' ∧ k = xs.length - i ∧ i ≤ xs.length,
      ⟨_, ι1, _, h1, Dm, hr1, wipe_rs (rs.mono e1 hr.live) ws, q1, td.mono e1 hr.live hr1.live, .refl, rfl, Nat.zero_le _⟩, ?_⟩
    rintro i k s2 H2 ⟨ι2, sm2, hm2, Dm2, hr2, rs2, q2, td2, e2, rfl, hi2⟩
    cases e : xs[i]? with
    | none =>
      have hd : xs.drop i = [] := List.drop_eq_nil_of_le (List.getElem?_eq_none_iff.mp e)
      rw [hd] at q2
      exact .inl ⟨((jr Y.hid (fun _ z => .inl z) ι2 hm2 H2 hr2 e2 q2.1) i).1 e, td2.nx.here hr2 rs2 q2.2⟩
    | some v =>
      obtain ⟨hlt, ev⟩ := List.getElem?_eq_some_iff.mp e
      have hd : xs.drop i = v :: xs.drop (i + 1) := by rw [List.drop_eq_getElem_cons hlt, ev]
      rw [hd] at q2
      obtain ⟨go, y⟩ := ((jr Y.hid (fun _ z => .inl z) ι2 hm2 H2 hr2 e2 q2.1) i).2 v e
      refine .inr ⟨go, fun s' H' => ∃ ι' sm' hm' Dm', HR Y ι' hm' H' ∧ RS Y ι' hm'.length H' sm' s' ∧ forM ok g b (xs.drop (i + 1)) sm' hm' Dm' ∧ TrD Y W ι' hm'.length H' Dm' D ∧ Ext h1.length hm'.length ι1 ι' H1 H', fun s' H' ⟨ι', sm', hm', Dm', a1, a2, a3, a4, a5⟩ => ⟨_, by omega, ι', sm', hm', Dm', a1, a2, a3, a4, a5, rfl, hlt⟩, fun x H3 yl => ?_⟩
      obtain ⟨hr3, e3, r3⟩ := y x H3 yl
      have td3 := td2.mono e3 hr2.live hr3.live
      refine ⟨ι2, sm2, hm2, v, _, _, hr3, rs2.mono e3 hr2.live, r3, q2.2, fun sm' h' ι' H' s' hr' ex rs' q' => ?_, td3.ex.ex hr3.live (rs2.mono e3 hr2.live)⟩
      have td4 := td3.mono ex hr3.live hr'.live
      have nxt : TrN Y ι' h'.length H' (fun s2 h2 => forM ok g b (xs.drop (i + 1)) s2 h2 Dm2) (fun s' H' => ∃ ι' sm' hm' Dm', HR Y ι' hm' H' ∧ RS Y ι' hm'.length H' sm' s' ∧ forM ok g b (xs.drop (i + 1)) sm' hm' Dm' ∧ TrD Y W ι' hm'.length H' Dm' D ∧ Ext h1.length hm'.length ι1 ι' H1 H') :=
        fun sm5 h5 ι5 H5 s5 hr5 ex5 rs5 q5 => ⟨ι5, sm5, h5, Dm2, hr5, rs5, q5, td4.mono ex5 hr'.live hr5.live, ((e2.trans e3 hr1.live hr2.live).trans ex hr1.live hr3.live).trans ex5 hr1.live hr'.live⟩
      exact ⟨ι', sm', h', _, hr', rs', q', ⟨nxt, td4.rt, td4.nx, nxt, td4.ex⟩⟩
end
theorem loop_T {α : Type} {ea : α → MV} {ok : MHp → Prop} {g : MG} {b : MS} {N : MSt → MHp → Prop} {R : MQ} {B C : MSt → MHp → Prop} {X : MV → MSt → MHp → Prop} {as : List α} {s : MSt} {h : MHp} (I : List α → MSt → MHp → Prop) (hi : I as s h) (hok : ∀ xs s h, I xs s h → ok h) (hend : ∀ s h, I [] s h → N s h)
    (hstep : ∀ x xs s h K, I (x :: xs) s h → (∀ s2 h2, I xs s2 h2 → K s2 h2) → g (ea x) s h (fun s1 h1 => @kb ⟨b⟩ s1 h1 ⟨⟨K, R, N, K, X⟩⟩) (fun e h' => X e s h')) : @loop ok g b (as.map ea) s h ⟨⟨N, R, B, C, X⟩⟩ :=
  for_listT (ea := ea) I hok hend (fun x xs s h K i k => hstep x xs s h K i k) as s h hi
theorem loop_all {α : Type} {ea : α → MV} {ok : MHp → Prop} {g : MG} {b : MS} {N : MSt → MHp → Prop} {R : MQ} {B C : MSt → MHp → Prop} {X : MV → MSt → MHp → Prop} {as : List α} {s : MSt} {h : MHp} (P : α → Bool) (hok : ok h) (hnx : as.all P = true → N s h)
    (hst : ∀ a ∈ as, ∀ K : MSt → MHp → Prop, (P a = true → K s h) → (P a = false → as.all P = false) → g (ea a) s h (fun s1 h1 => @kb ⟨b⟩ s1 h1 ⟨⟨K, R, N, K, X⟩⟩) (fun e h' => X e s h')) : @loop ok g b (as.map ea) s h ⟨⟨N, R, B, C, X⟩⟩ :=
  for_all (ea := ea) P (fun s' => s' = s) hok rfl (fun e s' es => es ▸ hnx e) fun a ha s' K es h1 h2 => by
    subst es
    exact hst a ha K (fun p => h1 p _ rfl) h2
theorem whl_I {t : MT} {b : MS} {s : MSt} {h : MHp} {N : MSt → MHp → Prop} {R : MQ} {B C : MSt → MHp → Prop} {X : MV → MSt → MHp → Prop} (I : Nat → MSt → MHp → Prop) (n : Nat) (hi : I n s h)
    (hst : ∀ n s h K, I n s h → (∀ m s2 h2, m < n → I m s2 h2 → K s2 h2) → t s h (fun c h1 => @ifB c ⟨@kb ⟨b⟩ s h1 ⟨⟨K, R, N, K, X⟩⟩⟩ ⟨N s h1⟩) (fun e h' => X e s h')) : @whl t b s h ⟨⟨N, R, B, C, X⟩⟩ :=
  while_ind I (fun n s h K i k => hst n s h K i k) hi
section
variable {α β : Type} {ea : α → MV} {eb : β → MV} {ok : MHp → Prop} {g : MG} {t : MT} {elt : ME} {s0 : MSt} {Q : List MV → MHp → Prop} {h : MHp} {as : List α}
theorem cp_filter_map (p : α → Bool) (f : α → β) (hok : ok h) (hl : as.length ≤ 16777216) (q : Q (((as.filter p).map f).map eb) h)
    (hs : ∀ a ∈ as, ∀ (acc : List MV) (K : List MV → MHp → Prop), acc.length < sizeLine → (p a = true → K (acc ++ [eb (f a)]) h) → (p a = false → K acc h) → g (ea a) s0 h (@itm t elt acc ⟨K⟩) NoE) : @comp ok g t elt s0 (as.map ea) [] h ⟨Q⟩ :=
  comp_filter_map (eb := eb) p f hok hl (fun a ha acc K h1 h2 => hs a ha acc K h1 (fun e => by rw [if_pos e] at h2; exact h2) fun e => by rw [if_neg (by rw [e]; exact Bool.false_ne_true)] at h2; exact h2) q
theorem cp_filter (p : α → Bool) (hok : ok h) (hl : as.length ≤ 16777216) (q : Q ((as.filter p).map ea) h)
    (hs : ∀ a ∈ as, ∀ (acc : List MV) (K : List MV → MHp → Prop), acc.length < sizeLine → (p a = true → K (acc ++ [ea a]) h) → (p a = false → K acc h) → g (ea a) s0 h (@itm t elt acc ⟨K⟩) NoE) : @comp ok g t elt s0 (as.map ea) [] h ⟨Q⟩ :=
  comp_filter p hok hl (fun a ha acc K h1 h2 => hs a ha acc K h1 (fun e => by rw [if_pos e] at h2; exact h2) fun e => by rw [if_neg (by rw [e]; exact Bool.false_ne_true)] at h2; exact h2) q
theorem cp_ind (I : List α → List MV → MHp → Prop) (hi : I as [] h) (hok : ∀ xs acc h, I xs acc h → ok h) (hend : ∀ acc h, I [] acc h → Q acc h)
    (hs : ∀ x xs acc h K, I (x :: xs) acc h → (∀ acc2 h2, I xs acc2 h2 → K acc2 h2) → g (ea x) s0 h (@itm t elt acc ⟨K⟩) NoE) : @comp ok g t elt s0 (as.map ea) [] h ⟨Q⟩ := by
  refine comp_ind (fun xs acc h => ∃ bs, xs = bs.map ea ∧ I bs acc h) (fun _ _ _ ⟨_, _, i⟩ => hok _ _ _ i) (fun acc h ⟨bs, e, i⟩ => ?_) (fun x xs acc h K ⟨bs, e, i⟩ hK => ?_) _ [] _ ⟨as, rfl, hi⟩
  · cases bs with
    | nil => exact hend acc h i
    | cons => simp at e
  · cases bs with
    | nil => simp at e
    | cons b bs =>
      simp only [List.map_cons, List.cons.injEq] at e
      obtain ⟨rfl, rfl⟩ := e
      exact hs b bs acc h K i fun a2 h2 i2 => hK _ _ ⟨bs, rfl, i2⟩
end
end Mini
namespace Mini
open PySem PySem.Spec PyProof.Rows L2
def dGet : List MV → List MV → NestedKey → Option MV
  | k :: ks, v :: vs, q => if k.key = some q then some v else dGet ks vs q
  | _, _, _ => none
def dPutV : List MV → List MV → NestedKey → MV → List MV
  | k :: ks, v :: vs, q, x => (if k.key = some q then x else v) :: dPutV ks vs q x
  | _, _, _, _ => []
def dHas (ks : List MV) (q : NestedKey) : Bool := ks.any fun k => decide (k.key = some q)
def dPutK (ks : List MV) (kq : MV) (q : NestedKey) : List MV := if dHas ks q = true then ks else ks ++ [kq]
def dPutW (ks vs : List MV) (q : NestedKey) (x : MV) : List MV := if dHas ks q = true then dPutV ks vs q x else vs ++ [x]
def DRel (es : List DEnt) (xs : List (NestedKey × Addr × Value)) : Prop := Paired (fun (p : DEnt) (x : NestedKey × Addr × Value) => p.1 = x.1 ∧ p.2.1 = .ref x.2.1 ∧ RelV p.2.2 x.2.2) es xs
section
variable {Y : Lay} {ι : Nat → Addr} {n : Nat} {X : Cx} {pins : List (Addr × Obj)} {σ : L2.St} {H : Hp} {s : Shared} {a : Addr} {ep : Nat} {ks vs : List MV} {es : List DEnt}
theorem tupkey_ref {k : MV} {x : V} {l : List NestedKey} (r : Rep Y ι n H k x) (h : k.key = some (.tup l)) : ∃ ks, k = .tup ks ∧ ∃ b, x = .ref b := by
  cases r with
  | tup e ra => exact ⟨_, rfl, _, rfl⟩
  | non => simp [MV.key] at h
  | bl b => simp [MV.key] at h
  | int i => simp [MV.key] at h
  | str x => simp [MV.key] at h
  | _ => simp [MV.key] at h
theorem drel_of (I : Inv X pins σ H s) : ∀ {es : List DEnt} {ks : List MV} {ds : List DictEntry}, RepAll Y ι n H ks (es.map (·.2.1)) → ks.map MV.key = es.map (fun e => some e.1) → (∀ e ∈ es, ∃ l, e.1 = .tup l) → (∀ e ∈ es, e.1.depth ≤ 8) →
    Paired (fun (p : DEnt) (e : DictEntry) => e.hash = p.1.hash X.w ∧ RelV p.2.1 e.key ∧ RelV p.2.2 e.val) es ds → ∃ xs, DRel es xs ∧ ds = xs.map (entryOfKey (nestedKind X.prog X.w)) ∧ ∀ x ∈ xs, (nestedKind X.prog X.w).is s.heap x.1 x.2.1
  | [], _, _, _, _, _, _, .nil => ⟨[], .nil, rfl, fun x hx => nomatch hx⟩
  | e :: es, [], _, r, hk, _, _, _ => by simp at hk
  | e :: es, k :: ks, _, r, hk, ht, hd, .cons (b := d) p ps => by
    simp only [List.map_cons, List.cons.injEq] at hk
    cases r with
    | cons r1 r2 =>
      obtain ⟨xs, h1, h2, h3⟩ := drel_of I r2 hk.2 (fun x hx => ht x (List.mem_cons_of_mem _ hx)) (fun x hx => hd x (List.mem_cons_of_mem _ hx)) ps
      obtain ⟨l, el⟩ := ht e List.mem_cons_self
      obtain ⟨e1, e2, e3⟩ := e
      simp only at el r1 p hk
      subst el
      obtain ⟨kk, rfl, b, rfl⟩ := tupkey_ref r1 hk.1
      obtain ⟨p1, p2, p3⟩ := p
      have ek : d.key = .ref b := p2
      refine ⟨(.tup l, b, d.val) :: xs, .cons ⟨rfl, rfl, p3⟩ h1, ?_, fun x hx => ?_⟩
      · rw [List.map_cons, ← h2]
        congr 1
        obtain ⟨dh, dk, dv⟩ := d
        simp only at p1 ek
        subst ek p1
        rfl
      · rcases List.mem_cons.mp hx with rfl | hx
        · exact ⟨nested_of I r1 rfl hk.1, hd _ List.mem_cons_self⟩
        · exact h3 x hx
theorem dict_at (I : Inv X pins σ H s) (ha : H a = some (dO X.w a ep es)) : ∃ o ds, s.heap.get? a = some o ∧ o.ExactDict ∧ o.data = .dict ds ep ∧ Paired (fun (p : DEnt) (e : DictEntry) => e.hash = p.1.hash X.w ∧ RelV p.2.1 e.key ∧ RelV p.2.2 e.val) es ds.toList :=
  (show _ ∧ _ from I.hok a _ ha).1
theorem dict_reads (I : Inv X pins σ H s) (ha : H a = some (dO X.w a ep es)) (g : DGood a ks es) (r : RepAll Y ι n H ks (es.map (·.2.1))) : ∃ xs, DRel es xs ∧ s.heap.DictOfH (nestedKind X.prog X.w) a xs := by
  obtain ⟨o, ds, h1, h2, h3, h4⟩ := dict_at I ha
  obtain ⟨xs, r1, r2, r3⟩ := drel_of I r g.keys g.tup g.dp h4
  refine ⟨xs, r1, o, ds, ep, h1, h2, h3, r2, r3, ?_⟩
  have e : ∀ {es : List DEnt} {xs : List (NestedKey × Addr × Value)}, DRel es xs → xs.map (·.1) = es.map (·.1) := by
    intro es xs q
    induction q with
    | nil => rfl
    | cons p _ ih => rw [List.map_cons, List.map_cons, ih, p.1]
  rw [e r1]
  exact g.nd
theorem dO_of {P : Program} {w : World} {h : Heap} {xs : List (NestedKey × Addr × Value)} (D : h.DictOfH (nestedKind P w) a xs) (r : DRel es xs) : ∃ ep, ∀ G : Hp, ObjOk P w G h a (dO w a ep es) := by
  obtain ⟨o, ds, ep, h1, h2, h3, h4, h5, h6⟩ := D
  refine ⟨ep, fun G => ⟨⟨o, ds, h1, h2, h3, ?_⟩, ⟨o, h1⟩, fun ha hb ⟨o', ds', q1, q2, q3, q4⟩ k => ⟨o', ds', k o' q1, q2, q3, q4⟩⟩⟩
  rw [h4]
  have conv : ∀ {es : List DEnt} {xs : List (NestedKey × Addr × Value)}, DRel es xs → Paired (fun (p : DEnt) (e : DictEntry) => e.hash = p.1.hash w ∧ RelV p.2.1 e.key ∧ RelV p.2.2 e.val) es (xs.map (entryOfKey (nestedKind P w))) := by
    intro es xs q
    induction q with
    | nil => exact .nil
    | @cons p x ps xs hp _ ih => exact .cons ⟨by rw [hp.1] <;> rfl, by rw [hp.2.1] <;> rfl, hp.2.2⟩ ih
  exact conv r
theorem look_rel : ∀ {es : List DEnt} {ks vs : List MV} {xs : List (NestedKey × Addr × Value)} {q : NestedKey}, DRel es xs → ks.map MV.key = es.map (fun e => some e.1) → RepAll Y ι n H vs (es.map (·.2.2)) →
    (dGet ks vs q = none ∧ atKey xs q = none ∧ dHas ks q = false) ∨ ∃ v y p, dGet ks vs q = some v ∧ atKey xs q = some p ∧ Rep Y ι n H v y ∧ RelV y p.2 ∧ dHas ks q = true
  | [], ks, vs, _, q, .nil, hk, r => by
    cases ks with
    | nil => cases r; exact .inl ⟨rfl, rfl, rfl⟩
    | cons k ks => simp at hk
  | e :: es, ks, vs, _, q, .cons (b := x) p ps, hk, r => by
    cases ks with
    | nil => simp at hk
    | cons k ks =>
      simp only [List.map_cons, List.cons.injEq] at hk
      cases r with
      | @cons v vs y ys r1 r2 =>
        obtain ⟨x1, x2, x3⟩ := x
        obtain ⟨p1, p2, p3⟩ := p
        simp only at p1 p2 p3
        by_cases h : x1 = q
        · subst h
          refine .inr ⟨v, _, (x2, x3), ?_, ?_, r1, p3, ?_⟩
          · unfold dGet; rw [if_pos (by rw [hk.1, p1])]
          · simp [atKey]
          · unfold dHas; rw [List.any_cons, hk.1, p1]; simp
        · have hne : ¬ k.key = some q := by rw [hk.1, p1]; simpa using h
          have ea : ∀ t, atKey ((x1, x2, x3) :: t) q = atKey t q := fun t => by unfold atKey; rw [List.find?_cons_of_neg (by simpa using h)]
          rcases look_rel (q := q) ps hk.2 r2 with ⟨h1, h2, h3⟩ | ⟨v', y', p', h1, h2, h3, h4, h5⟩
          · refine .inl ⟨?_, (ea _).trans h2, ?_⟩
            · unfold dGet; rw [if_neg hne]; exact h1
            · unfold dHas at h3 ⊢; rw [List.any_cons, h3, decide_eq_false hne]; rfl
          · refine .inr ⟨v', y', p', ?_, (ea _).trans h2, h3, h4, ?_⟩
            · unfold dGet; rw [if_neg hne]; exact h1
            · unfold dHas at h5 ⊢; rw [List.any_cons, h5, Bool.or_true]
def dPutE (es : List DEnt) (has : Bool) (q : NestedKey) (x y : V) : List DEnt := if has = true then es.map (fun e => if e.1 = q then (e.1, e.2.1, y) else e) else es ++ [(q, x, y)]
theorem put_rel {xs : List (NestedKey × Addr × Value)} {q : NestedKey} {b : Addr} {y : V} {u : Value} {has : Bool} (r : DRel es xs) (hs : has = (atKey xs q).isSome) (hy : RelV y u) : DRel (dPutE es has q (.ref b) y) (storedH xs q b u) := by
  unfold dPutE storedH
  rw [hs]
  cases (atKey xs q).isSome with
  | true =>
    rw [if_pos rfl, if_pos rfl]
    clear hs
    unfold DRel at r ⊢
    induction r with
    | nil => exact .nil
    | @cons p x ps xs hp _ ih =>
      refine .cons ?_ ih
      unfold putAt
      by_cases h : x.1 = q
      · dsimp only
        rw [if_pos h, if_pos (hp.1.trans h)]
        exact ⟨hp.1, hp.2.1, hy⟩
      · dsimp only
        rw [if_neg h, if_neg fun z => h (hp.1.symm.trans z)]
        exact hp
  | false =>
    rw [if_neg Bool.false_ne_true, if_neg Bool.false_ne_true]
    clear hs
    unfold DRel at r ⊢
    induction r with
    | nil => exact .cons ⟨rfl, rfl, hy⟩ .nil
    | @cons p x ps xs hp _ ih => exact .cons hp ih
theorem put_good {q : NestedKey} {kq : MV} {x y : V} (g : DGood a ks es) (hk : kq.key = some q) (hl : es.length < sizeLine) (hd : q.depth ≤ 8) (ht : ∃ l, q = .tup l) : DGood a (dPutK ks kq q) (dPutE es (dHas ks q) q x y) := by
  have hh : dHas ks q = true ↔ q ∈ es.map (·.1) := by
    unfold dHas
    have e : (ks.any fun k => decide (k.key = some q)) = (ks.map MV.key).any fun k => decide (k = some q) := by rw [List.any_map] <;> rfl
    rw [e, g.keys, List.any_eq_true]
    simp
  unfold dPutK dPutE
  by_cases h : dHas ks q = true
  · rw [if_pos h, if_pos h]
    have e1 : (es.map fun e => if e.1 = q then (e.1, e.2.1, y) else e).map (·.1) = es.map (·.1) := by
      rw [List.map_map]
      refine List.map_congr_left fun e _ => ?_
      show (if e.1 = q then (e.1, e.2.1, y) else e).1 = e.1
      split <;> rfl
    have e2 : (es.map fun e => if e.1 = q then (e.1, e.2.1, y) else e).map (fun e => some e.1) = es.map fun e => some e.1 := by
      have := congrArg (List.map some) e1
      rw [List.map_map, List.map_map] at this
      rw [List.map_map] at this ⊢
      exact this
    have e3 : ∀ e ∈ es.map (fun e => if e.1 = q then (e.1, e.2.1, y) else e), ∃ e' ∈ es, e.1 = e'.1 := fun e he => by
      obtain ⟨e', he', rfl⟩ := List.mem_map.mp he
      refine ⟨e', he', ?_⟩
      split <;> rfl
    refine ⟨?_, ?_, ?_, g.sys, fun e he => ?_, fun e he => ?_⟩
    · exact (g.keys).trans e2.symm
    · rw [e1]; exact g.nd
    · rw [List.length_map]; exact g.len
    · obtain ⟨e', he', q⟩ := e3 e he
      rw [q]; exact g.dp e' he'
    · obtain ⟨e', he', q⟩ := e3 e he
      rw [q]; exact g.tup e' he'
  · rw [if_neg h, if_neg h]
    refine ⟨by rw [List.map_append, List.map_append, g.keys, List.map_singleton, hk] <;> rfl, ?_, by rw [List.length_append, List.length_singleton]; omega, g.sys, fun e he => ?_, fun e he => ?_⟩
    · rw [List.map_append, List.map_singleton]
      refine List.nodup_append.mpr ⟨g.nd, by simp, fun a ha b hb e => ?_⟩
      have e2 : a = q := e.trans (List.mem_singleton.mp hb)
      exact h (hh.mpr (e2 ▸ ha))
    · rcases List.mem_append.mp he with he | he
      · exact g.dp e he
      · rw [List.mem_singleton.mp he]; exact hd
    · rcases List.mem_append.mp he with he | he
      · exact g.tup e he
      · rw [List.mem_singleton.mp he]; exact ht
theorem put_reps {q : NestedKey} {kq v : MV} {x y : V} (g : ks.map MV.key = es.map fun e => some e.1) (rk : RepAll Y ι n H ks (es.map (·.2.1))) (rv : RepAll Y ι n H vs (es.map (·.2.2))) (r1 : Rep Y ι n H kq x) (r2 : Rep Y ι n H v y) :
    RepAll Y ι n H (dPutK ks kq q) ((dPutE es (dHas ks q) q x y).map (·.2.1)) ∧ RepAll Y ι n H (dPutW ks vs q v) ((dPutE es (dHas ks q) q x y).map (·.2.2)) := by
  unfold dPutK dPutW dPutE
  by_cases h : dHas ks q = true
  · rw [if_pos h, if_pos h, if_pos h]
    clear h
    constructor
    · have e : (es.map fun e => if e.1 = q then (e.1, e.2.1, y) else e).map (fun e => e.2.1) = es.map (·.2.1) := by
        rw [List.map_map]
        refine List.map_congr_left fun e _ => ?_
        show (if e.1 = q then (e.1, e.2.1, y) else e).2.1 = e.2.1
        split <;> rfl
      rw [e]; exact rk
    · clear rk
      induction es generalizing ks vs with
      | nil =>
        cases ks with
        | nil => cases rv; exact .nil
        | cons k ks => simp at g
      | cons e es ih =>
        cases ks with
        | nil => simp at g
        | cons k ks =>
          cases rv with
          | cons s1 s2 =>
            simp only [List.map_cons, List.cons.injEq] at g
            unfold dPutV
            refine .cons ?_ (ih g.2 s2)
            rw [g.1]
            dsimp only
            by_cases he : e.1 = q
            · rw [if_pos (by rw [he]), if_pos he]; exact r2
            · rw [if_neg (by simpa using he), if_neg he]; exact s1
  · rw [if_neg h, if_neg h, if_neg h, List.map_append, List.map_append]
    exact ⟨rk.append (.cons r1 .nil), rv.append (.cons r2 .nil)⟩
end
def dctOf (h : MHp) : MV → Option (List MV × List MV)
  | .ref n => match h[n]? with
    | some (.dct _ ks vs) => some (ks, vs)
    | _ => none
  | .fd ks vs => some (ks, vs)
  | _ => none
def tkey (u : MV) : Option NestedKey := match u with
  | .tup xs => (match (MV.tup xs).key with
    | some q => if q.depth ≤ 8 then some q else none
    | none => none)
  | _ => none
theorem tkey_some {u : MV} {q : NestedKey} (h : tkey u = some q) : ∃ xs l, u = .tup xs ∧ q = .tup l ∧ u.key = some q ∧ q.depth ≤ 8 := by
  unfold tkey at h
  split at h
  · rename_i xs
    cases e : (MV.tup xs).key with
    | none => simp [e] at h
    | some k =>
      simp only [e] at h
      split at h
      · cases h
        have e2 := e
        simp only [MV.key, Option.map_eq_some_iff] at e2
        obtain ⟨l, _, rfl⟩ := e2
        exact ⟨xs, l, rfl, rfl, rfl, by assumption⟩
      · cases h
  · cases h
section
variable {Y : Lay} {ι : Nat → Addr} {X : Cx} {pins : List (Addr × Obj)} {σ : L2.St} {H : Hp} {s : Shared} {hm : MHp} {v u : MV} {x y : V} {ks vs : List MV}
theorem dctOf_rep (hr : HR Y ι hm H) (r : Rep Y ι hm.length H v x) (h : dctOf hm v = some (ks, vs)) : ∃ a ep es, x = .ref a ∧ H a = some (dO Y.w a ep es) ∧ DGood a ks es ∧ RepAll Y ι hm.length H ks (es.map (·.2.1)) ∧ RepAll Y ι hm.length H vs (es.map (·.2.2)) := by
  unfold dctOf at h
  cases r with
  | @ref i hi =>
    cases e : hm[i]? with
    | none => simp [e] at h
    | some c =>
      simp only [e] at h
      cases c with
      | dct ep ks' vs' =>
        cases h
        obtain ⟨es, h1, h2, h3, h4⟩ := hr.cell _ _ e
        exact ⟨_, _, es, rfl, h1, h2, h3, h4⟩
      | _ => cases h
  | fd e o g r1 r2 => cases h; exact ⟨_, _, _, rfl, e, g, r1, r2⟩
  | _ => simp at h
theorem key_at (I : Inv X pins σ H s) {q : NestedKey} (r : Rep Y ι hm.length H u y) (hq : tkey u = some q) : ∃ b, y = .ref b ∧ (nestedKind X.prog X.w).is s.heap q b := by
  obtain ⟨xs, l, rfl, rfl, hk, hd⟩ := tkey_some hq
  obtain ⟨_, _, b, rfl⟩ := tupkey_ref r hk
  exact ⟨b, rfl, nested_of I r rfl hk, hd⟩
theorem look_at (hy : Y.w = X.w) (I : Inv X pins σ H s) (hr : HR Y ι hm H) (rv : Rep Y ι hm.length H v x) (ru : Rep Y ι hm.length H u y) (hd : dctOf hm v = some (ks, vs)) {q : NestedKey} (hq : tkey u = some q) :
    ∃ a b xs, x = .ref a ∧ y = .ref b ∧ (a == sysModules) = false ∧ (nestedKind X.prog X.w).is s.heap q b ∧ s.heap.DictOfH (nestedKind X.prog X.w) a xs ∧
      ((dGet ks vs q = none ∧ atKey xs q = none ∧ dHas ks q = false) ∨ ∃ w z p, dGet ks vs q = some w ∧ atKey xs q = some p ∧ Rep Y ι hm.length H w z ∧ RelV z p.2 ∧ dHas ks q = true) := by
  obtain ⟨a, ep, es, rfl, ha, g, r1, r2⟩ := dctOf_rep hr rv hd
  rw [hy] at ha
  obtain ⟨b, rfl, hb⟩ := key_at I ru hq
  obtain ⟨xs, dr, dd⟩ := dict_reads I ha g r1
  exact ⟨a, b, xs, rfl, rfl, g.sys, hb, dd, look_rel dr g.keys r2⟩
end
def ixD (v u : MV) (h : MHp) (Q : MQ) : Prop := ∃ ks vs q x, dctOf h v = some (ks, vs) ∧ tkey u = some q ∧ dGet ks vs q = some x ∧ Q x h
def inD (v u : MV) (h : MHp) (Q : MQ) : Prop := ∃ ks vs q, dctOf h u = some (ks, vs) ∧ tkey v = some q ∧ Q (.bl (dHas ks q)) h
section
variable {Y : Lay} {W : WX} {X : Cx} {a b : ME} {ea eb : Expr} {pos : Pos}
theorem sn_ixD (hu : X.A.units + 64 < cLine) (hy : Y.w = X.w) (ha : SE Y W X a ea) (hb : SE Y W X b eb) (hs : NoSl eb := by intro _ _; rfl) : SE Y W X (mOp2 ixD a b) (.Subscript ea eb pos) := by
  refine ⟨fun pins s σ H Q I h => ?_⟩
  refine subD_of PySem.F.slot_dict_getitem.lookup hs (thn (ha.run pins s σ H _ I (tM_op2 h)) fun dv t1 ⟨xd, K1, J1, rd, g1⟩ => thn (hb.run pins t1 σ K1 _ J1 g1) fun kv t2 ⟨yk, K2, J2, rk, g2⟩ => ?_)
  obtain ⟨ι, hm, v, u, Qm, hr, rv, ru, ⟨ks, vs, q, w, hd, hq, hw, qq⟩, tq⟩ := g2
  obtain ⟨a, b, xs, rfl, rfl, _, hb2, dd, lk⟩ := look_at hy J2 hr rv ru hd hq
  obtain rfl : dv = Value.ref a := rd
  obtain rfl : kv = Value.ref b := rk
  rcases lk with ⟨e, _⟩ | ⟨w', z, p, e1, e2, e3, e4, _⟩
  · rw [hw] at e; cases e
  · rw [hw] at e1; cases e1
    refine ⟨dd.typeIs, wpAny_getItem_heap (show X.A.in1.units + 8 < cLine from ?_) hb2 dd e2 ⟨z, K2, J2.tok _, e4, tq.here hr e3 qq⟩⟩
    show X.A.units + 1 + 8 < cLine
    omega
theorem op_inD (hu : X.A.units + 64 < cLine) (hy : Y.w = X.w) : OpR X (compareOp .In) (R2M Y inD) := by
  intro pins s σ H x y kv dv Q I rk rd ⟨ι, hm, v, u, Qm, hr, rv, ru, ⟨ks, vs, q, hd, hq, qq⟩, tq⟩
  obtain ⟨a, b, xs, rfl, rfl, hs, hb2, dd, lk⟩ := look_at hy I hr ru rv hd hq
  obtain rfl : dv = Value.ref a := rd
  obtain rfl : kv = Value.ref b := rk
  refine wpAny_in_heap (show X.A.units + 1 + 8 < cLine by omega) hb2 hs dd ⟨.bl (dHas ks q), H, I.tok _, ?_, tq.here hr (.bl _) qq⟩
  rcases lk with ⟨_, e2, e3⟩ | ⟨_, _, _, _, e2, _, _, e3⟩
  · rw [e2, e3]; rfl
  · rw [e2, e3]; rfl
end
def gIxD (o i : ME) : MG := fun v s h Q E => o s h (fun x h1 => i s h1 (fun k h2 => ∃ n ep ks vs q, x = .ref n ∧ h2[n]? = some (.dct ep ks vs) ∧ tkey k = some q ∧ ks.length < 16777216 ∧ ∀ ep', Q s (h2.set n (.dct ep' (dPutK ks k q) (dPutW ks vs q v)))) E) E
def putD (Y : Lay) : TSet := fun o i v H Q => ∃ ι hm n ep ks vs q om im vm, HR Y ι hm H ∧ Rep Y ι hm.length H im i ∧ Rep Y ι hm.length H vm v ∧ o = .ref (ι n) ∧ hm[n]? = some (.dct ep ks vs) ∧ tkey im = some q ∧ ks.length < 16777216 ∧ om = MV.ref n ∧
  ∀ ep' H' , HR Y ι (hm.set n (.dct ep' (dPutK ks im q) (dPutW ks vs q vm))) H' → Ext hm.length hm.length ι ι H H' → Q H'
section
variable {Y : Lay} {W : WX} {X : Cx}
theorem set_D (hu : X.A.units + 64 < cLine) (hy : Y.w = X.w) : PSet X (putD Y) := by
  intro pins s σ H o i v ov iv uv Q I ro ri rv ⟨ι, hm, n, ep, ks, vs, q, om, im, vm, hr, r1, r2, eo, hc, hq, hl, _, fin⟩
  subst eo
  obtain rfl : ov = Value.ref (ι n) := ro
  obtain ⟨b, rfl, hb⟩ := key_at I r1 hq
  obtain rfl : iv = Value.ref b := ri
  have hn : n < hm.length := (List.getElem?_eq_some_iff.mp hc).1
  obtain ⟨es, ha, g, rk, rw'⟩ := hr.cell n _ hc
  rw [hy] at ha
  obtain ⟨xs, dr, dd⟩ := dict_reads I ha g rk
  have hel : es.length = ks.length := by have := congrArg List.length g.keys; simpa using this.symm
  have hxl : xs.length ≤ sizeLine := by
    rw [← Paired.length dr]; exact g.len
  obtain ⟨kk, l, rfl, rfl, hk, hdp⟩ := tkey_some hq
  refine wpAny_setItem_heap (hsz := hxl) (show X.A.units + 1 + 8 < cLine by omega) hb dd fun h' dd' sb => ?_
  have lk := look_rel (q := .tup l) dr g.keys rw'
  have hs : dHas ks (.tup l) = (atKey xs (.tup l)).isSome := by
    rcases lk with ⟨_, e2, e3⟩ | ⟨_, _, _, _, e2, _, _, e3⟩ <;> rw [e2, e3] <;> rfl
  obtain ⟨ep', new⟩ := dO_of dd' (put_rel (y := v) dr hs rv)
  have hput := put_good (x := .ref b) (y := v) g hk (by rw [hel, sizeLine_eq]; exact hl) hdp ⟨l, rfl⟩
  have hreps := put_reps (q := .tup l) g.keys rk rw' r1 r2
  have hex := Ext.cell (ι := ι) (H := H) hn (dO X.w (ι n) ep' (dPutE es (dHas ks (.tup l)) (.tup l) (.ref b) v))
  have mu : Mut (H (ι n)) := by rw [ha]; exact True.intro
  have he : ∃ ob, h'.get? (ι n) = some ob := let ⟨o', _, _, ho, _⟩ := dd'; ⟨o', ho⟩
  refine ⟨_, d_write (t' := s.toks + (nestedKind X.prog X.w).draws (.tup l)) I mu sb he (new _), fin ep' _ (hr.setCell hn ⟨_, ?_, hput, hreps.1.mono hex hr.live, hreps.2.mono hex hr.live⟩) hex⟩
  rw [hy]; exact upd_same
theorem sg_ixD {o i : ME} {eo ei : Expr} {pos : Pos} (hu : X.A.units + 64 < cLine) (hy : Y.w = X.w) (ho : SE Y W X o eo) (hi : SE Y W X i ei)
    (ha : ∀ v, assign (.Subscript eo ei pos) X.env v = (do
      let ov ← holding [v] (eval eo X.env)
      let iv ← holding [v, ov] (eval ei X.env)
      standAt pos
      holding [v, ov, iv] (setItem ov iv v)
      release [v, ov, iv] []) := by intro _; rfl) : SG Y W X (gIxD o i) (.Subscript eo ei pos) :=
  psgI (pg_sub ho hi (set_D hu hy) ha) fun x s H Q ⟨ι, sm, hm, v, Qm, Em, hr, rs, r, q, tq, tx⟩ => by
    refine ⟨ι, sm, hm, _, Em, hr, rs, q, fun y h1 ι1 H1 oy hr1 e1 r1 q1 => ?_, tx⟩
    refine ⟨ι1, sm, h1, _, Em, hr1, rs.mono e1 hr.live, q1, fun k h2 ι2 H2 kv hr2 e2 r2 q2 => ?_, tx.mono e1 hr.live hr1.live⟩
    obtain ⟨n, ep, ks, vs, qk, rfl, hc, hq, hl, fin⟩ := q2
    have e12 := e1.trans e2 hr.live hr1.live
    have r1' := r1.mono e2 hr1.live
    cases r1' with
    | ref hi =>
      refine ⟨ι2, h2, n, ep, ks, vs, qk, _, k, v, hr2, r2, r.mono e12 hr.live, rfl, hc, hq, hl, rfl, fun ep' H' hr' ex => ?_⟩
      have ex' : Ext h2.length (h2.set n (.dct ep' (dPutK ks k qk) (dPutW ks vs qk v))).length ι2 ι2 H2 H' := by rw [List.length_set]; exact ex
      refine tq sm _ ι2 H' s hr' (e12.trans ex' hr.live hr2.live) ?_ (fin ep')
      rw [List.length_set]
      exact (rs.mono e12 hr.live).mono ex hr2.live
end
end Mini
namespace Mini
open PySem PySem.Spec PyProof.Rows L2
section
variable {X : Cx} {pins : List (Addr × Obj)} {σ : L2.St} {H : Hp} {s : Shared} {a : Addr} {ep : Nat}
end
end Mini
namespace Mini
open PySem PySem.Spec PyProof.Rows L2
theorem dO_new {P : Program} {w : World} {G : Hp} (h : Heap) : ∃ ep, ∀ G : Hp, ObjOk P w G (h.push { cls := .type "dict", data := .dict #[] }) h.objs.size (dO w h.objs.size ep []) :=
  dO_of (Heap.DictOfH.new h) .nil
theorem dgood_nil {a : Addr} (h : (a == sysModules) = false) : DGood a [] [] where
  keys := rfl
  nd := List.nodup_nil
  len := Nat.zero_le _
  sys := h
  dp := fun _ h => nomatch h
  tup := fun _ h => nomatch h

section
variable {Y : Lay} {W : WX} {X : Cx} {ι : Nat → Addr} {hm : MHp} {H : Hp} {D : Addr} {pins : List (Addr × Obj)} {σ : L2.St} {s : Shared}
theorem TrQ.newDc {Qm : MQ} {Q : VK} {ep : Nat} (t : TrQ Y ι hm.length H Qm Q) (hr : HR Y ι hm H) (hp : H D = none) (hs : (D == sysModules) = false) (q : Qm (.ref hm.length) (hm ++ [.dct ep [] []])) : Q (.ref D) (upd H D (dO Y.w D ep [])) := by
  have ex : Ext hm.length (hm ++ [Cell.dct ep [] []]).length ι (snocι ι hm.length D) H (upd H D (dO Y.w D ep [])) := by
    rw [List.length_append]
    exact Ext.snoc hp
  refine t (.ref hm.length) _ (snocι ι hm.length D) _ _ (hr.snoc (c := .dct ep [] []) hp ⟨[], upd_same, dgood_nil hs, .nil, .nil⟩) ex ?_ q
  have z : V.ref D = V.ref (snocι ι hm.length D hm.length) := by rw [snocι_at]
  rw [z]
  exact .ref (by rw [List.length_append]; exact Nat.lt_succ_self _)
def mD0 : ME := fun _ h Q _ => ∀ ep, Q (.ref h.length) (h ++ [.dct ep [] []])
theorem big_ne (I : Inv X pins σ H s) : (s.heap.objs.size == sysModules) = false := beq_eq_false_iff_ne.mpr fun e => absurd I.big (by rw [e]; exact Nat.lt_irrefl _)
theorem sn_d0 {pos : Pos} (hy : Y.w = X.w) : SE Y W X mD0 (.Dict [] [] pos) := by
  refine ⟨fun pins s σ H Q I ⟨ι, sm, hm, Qm, Em, hr, rs, q, tq, tx⟩ => ?_⟩
  obtain ⟨ep, ok⟩ := dO_new (P := X.prog) (w := X.w) (G := H) s.heap
  have free := I.hok.fresh (Nat.le_refl s.heap.objs.size)
  refine wpAny_Dict_empty ⟨.ref s.heap.objs.size, _, I.laid (t' := s.toks) (fun _ _ q => Heap.get?_push_of_some _ q) (Nat.le_refl _) (ok _), rfl, ?_⟩
  rw [← hy]
  exact TrQ.newDc tq hr free (big_ne I) (q ep)
def putH (Y : Lay) (D : Addr) (k v : V) (H : Hp) (Nx : Hp → Prop) : Prop := ∃ ι hm ep ks vs es q km vm, HR (Y.hide D) ι hm H ∧ Rep (Y.hide D) ι hm.length H km k ∧ Rep (Y.hide D) ι hm.length H vm v ∧ H D = some (dO Y.w D ep es) ∧
  DGood D ks es ∧ RepAll (Y.hide D) ι hm.length H ks (es.map (·.2.1)) ∧ RepAll (Y.hide D) ι hm.length H vs (es.map (·.2.2)) ∧ tkey km = some q ∧ ks.length < 16777216 ∧
  ∀ ep' es', DGood D (dPutK ks km q) es' → RepAll (Y.hide D) ι hm.length H (dPutK ks km q) (es'.map (·.2.1)) → RepAll (Y.hide D) ι hm.length H (dPutW ks vs q vm) (es'.map (·.2.2)) → Nx (upd H D (dO Y.w D ep' es'))
theorem put_H (hu : X.A.units + 64 < cLine) (hy : Y.w = X.w) {k v : V} {ku vu : Value} {Nx : Hp → Prop} {Q : Unit → Shared → Prop} {E : Value → Shared → Prop} (I : Inv X pins σ H s) (rk : RelV k ku) (rv : RelV v vu) (h : putH Y D k v H Nx)
    (fin : ∀ s' H', Inv X pins σ H' s' → Nx H' → Q () s') : wpAny (model X.prog X.w) X.A (dictSet D ku vu) Q E s := by
  obtain ⟨ι, hm, ep, ks, vs, es, q, km, vm, hr, r1, r2, ha, g, ra, rb, hq, hl, nx⟩ := h
  rw [hy] at ha
  obtain ⟨b, rfl, hb⟩ := key_at I r1 hq
  obtain rfl : ku = Value.ref b := rk
  obtain ⟨xs, dr, dd⟩ := dict_reads I ha g ra
  have hel : es.length = ks.length := by have := congrArg List.length g.keys; simpa using this.symm
  have hxl : xs.length ≤ sizeLine := by rw [← Paired.length dr]; exact g.len
  obtain ⟨kk, l, rfl, rfl, hk, hdp⟩ := tkey_some hq
  refine wpAny_dictSet_heap (hsz := hxl) (show X.A.units + 8 < cLine by omega) hb dd fun h' dd' sb => ?_
  have lk := look_rel (q := .tup l) dr g.keys rb
  have hs : dHas ks (.tup l) = (atKey xs (.tup l)).isSome := by
    rcases lk with ⟨_, e2, e3⟩ | ⟨_, _, _, _, e2, _, _, e3⟩ <;> rw [e2, e3] <;> rfl
  obtain ⟨ep', new⟩ := dO_of dd' (put_rel (y := v) dr hs rv)
  have hput := put_good (x := .ref b) (y := v) g hk (by rw [hel, sizeLine_eq]; exact hl) hdp ⟨l, rfl⟩
  have hreps := put_reps (q := .tup l) g.keys ra rb r1 r2
  have mu : Mut (H D) := by rw [ha]; exact True.intro
  have he : ∃ ob, h'.get? D = some ob := let ⟨o', _, _, ho, _⟩ := dd'; ⟨o', ho⟩
  refine fin _ _ (d_write (t' := s.toks + (nestedKind X.prog X.w).draws (.tup l)) I mu sb he (new _)) ?_
  rw [← hy]
  exact nx ep' _ hput hreps.1 hreps.2
abbrev cbX (X : Cx) (sc : Scope) (s : Shared) (H : Hp) (C : Addr) (cl : List (Str × Addr)) (fp : List Addr) : Cx := X.blk s H sc (compEnvC sc cl C X.env) fp
structure DcParts (X : Cx) (sc : Scope) (tg : Expr) (cs : List Expr) (ke ve : Expr) (g : TG) (tt : TT) (tk tv : TE) : Prop where
  tgt : ∀ s H C cl fp, PG (cbX X sc s H C cl fp) tg g
  ifs : ∀ s H C cl fp, PTs (cbX X sc s H C cl fp) cs tt
  key : ∀ s H C cl fp, PE (cbX X sc s H C cl fp) ke tk
  val : ∀ s H C cl fp, PE (cbX X sc s H C cl fp) ve tv
def dcTurn (Y : Lay) (D : Addr) (g : TG) (tt : TT) (tk tv : TE) (own : List Nat) (σ : L2.St) (Nx : Hp → Prop) (x : V) (H : Hp) : Prop :=
  g x (L2.wipe σ own) H fun σ2 H2 => L2.wipe σ2 own = L2.wipe σ own ∧ tt σ2 H2 fun b H3 => if b = true then tk σ2 H3 fun y H4 => tv σ2 H4 fun z H5 => putH Y D y z H5 Nx else Nx H3
def tDcm (Y : Lay) (wi : TI) (g : TG) (tt : TT) (tk tv : TE) (own : List Nat) : TE := fun σ H Q => wi σ H fun J H1 => ∀ D ep0, H1 D = none → (D == sysModules) = false → ∃ St : Nat → Nat → Hp → Prop, (∃ m, St 0 m (upd H1 D (dO Y.w D ep0 []))) ∧
  ∀ i m H, St i m H → (J.stop i H ∧ Q (.ref D) H) ∨ (J.go i H ∧ ∃ Nx : Hp → Prop, (∀ H', Nx H' → ∃ m', m' < m ∧ St (i + 1) m' H') ∧ ∀ x H', J.yld i H x H' → dcTurn Y D g tt tk tv own σ Nx x H')
theorem dcm_core {Q : VK} {kx vx tg iter : Expr} {cs : List Expr} {sc : Scope} {own : List (Str × Nat)} {pos pos' : Pos} {wi : TI} {g : TG} {tt : TT} {tk tv : TE} {use : Option (Value → PySem.Sem Unit)} {Qf : Value → Shared → Prop}
    (hu : X.A.units + 64 < cLine) (hy : Y.w = X.w) (hc : X.calm = true) (hN : X.N.Nodup) (I : Inv X pins σ H s) (hi : PI X tg iter wi) (ok : BlkOk X.N X.env.scope sc own) (ps : DcParts X sc tg cs kx vx g tt tk tv) (hs : ∀ x, foldedSetIterable iter X.env x = pure x)
    (h : tDcm Y wi g tt tk tv (own.map (·.2)) σ H Q)
    (back : ∀ D C s' m H', Inv X pins σ H' s' → Q (.ref D) H' → s'.heap.Ns C m → FpOk X pins H' C → compPost (model X.prog X.w) X.A X.xe use Qf (.ref D) C (.ok .next) s') :
    wpAny (model X.prog X.w) X.A (comprehension (.DictComp kx vx [⟨tg, iter, cs, 0⟩] sc pos) sc X.env pos' newDict false (eval iter X.env) use) Qf X.xe s := by
  have free : ∀ y ∈ sc.names, y.2 = .free → ∃ c, X.env.cells.lookup y.1 = some c := by
    intro y hy e
    rcases ok.free y hy e with k | k
    · exact I.ok.has _ (.inl k)
    · exact I.ok.has _ (.inr k)
  refine wpAny_comprehension_free (use := use) rfl hs (closure_ok free) ok.kind (fun y hy e => by rw [ok.uniq y hy, e]) (thn (hi.run pins s σ H _ I h) fun xv s1 hx => thn hx fun itv s2 h2 => ?_)
  obtain ⟨it, fp, tn, J, H2, rfl, I2, T, st2, f2, q⟩ := h2
  refine wpAny_newObj_type (newEnv_comp ?_)
  have hbig := big_ne I2
  obtain ⟨ep0, new⟩ := dO_new (P := X.prog) (w := X.w) (G := H2) s2.heap
  generalize hD : s2.heap.objs.size = D at hbig new
  have hDn : H2 D = none := I2.hok.fresh (Nat.le_of_eq hD)
  obtain ⟨St, ⟨m0, w0⟩, turn⟩ := q D ep0 hDn hbig
  rw [hy] at w0
  -- the dict lies in the heap
  generalize hs3 : ({ s2 with heap := s2.heap.push { cls := .type "dict", data := .dict #[] } } : Shared) = s3
  have h3 : s3.heap = s2.heap.push { cls := .type "dict", data := .dict #[] } := by rw [← hs3]
  have I3 : Inv X pins σ (upd H2 D (dO X.w D ep0 [])) s3 := by
    rw [← hs3]
    exact I2.laid (t' := s2.toks) (fun b o e => Heap.get?_push_of_some _ e) (Nat.le_of_eq hD) (new _)
  have low : ∀ b ∈ fp, b < s2.heap.objs.size := fun b hb => let ⟨o, e, _⟩ := T.obj _ _ st2 b hb; Heap.lt_size e
  have f3 : ∀ b ∈ fp, FpOk X pins (upd H2 D (dO X.w D ep0 [])) b ∧ b < s3.heap.objs.size := fun b hb =>
    ⟨⟨by rw [upd_ne (by rw [← hD]; exact Nat.ne_of_lt (low b hb))]; exact (f2 b hb).1, (f2 b hb).2⟩, by rw [h3, Heap.size_push]; exact Nat.lt_succ_of_lt (low b hb)⟩
  have st3 : tn 0 s3.heap := T.keep _ _ _ st2 fun b _ o e => by rw [h3]; exact Heap.get?_push_of_some _ e
  have I4 := block_start I3 ok hN f3
  generalize hC : s3.heap.objs.size = C at I4
  generalize hcl : cellsFrom (C + 1) sc.names (cloFrom X.env.cells sc.names []) = cl at I4
  have nfp : ∀ b ∈ fp, (upd H2 D (dO X.w D ep0 [])) b = none := fun b hb => (f3 b hb).1.1
  have pg := ps.tgt s3 (upd H2 D (dO X.w D ep0 [])) C cl fp
  have pt := ps.ifs s3 (upd H2 D (dO X.w D ep0 [])) C cl fp
  have pk := ps.key s3 (upd H2 D (dO X.w D ep0 [])) C cl fp
  have pv := ps.val s3 (upd H2 D (dO X.w D ep0 [])) C cl fp
  show codeAny _ _ (.compStart (.DictComp kx vx [⟨tg, iter, cs, 0⟩] sc pos) 0 (.ref it) (.ref D) (compEnvC sc cl C X.env)) (compPost (model X.prog X.w) X.A X.xe use Qf (.ref D) C) { s3 with heap := pushCells (s3.heap.push { cls := .type "dict", data := .dict #[] }) sc.names }
  generalize hH3 : upd H2 D (dO X.w D ep0 []) = H3 at I3 I4 pg pt pk pv w0 nfp f3
  generalize hs4 : ({ s3 with heap := pushCells (s3.heap.push { cls := .type "dict", data := .dict #[] }) sc.names } : Shared) = s4 at I4 ⊢
  have st4 : tn 0 s4.heap := T.keep _ _ _ st3 fun b _ o e => by rw [← hs4]; exact pushCells_keeps _ _ _ _ (Heap.get?_push_of_some _ e)
  have sure : ∀ {σ' : L2.St} {H' : Hp} {s' : Shared}, Inv (cbX X sc s3 H3 C cl fp) [] σ' H' s' → (∀ b ∈ fp, H' b = none) → ∀ b ∈ fp, FpOk (cbX X sc s3 H3 C cl fp) [] H' b := by
    intro σ' H' s' I' hn b hb
    exact ⟨hn b hb, (I'.ok.exf b hb).1, I'.ok.exfs b hb, .inl hb, fun x c e => (I'.ok.exf b hb).2 x c e, fun p hp => absurd (show p ∈ ([] : List (Addr × Obj)) ++ [] from hp) (by simp)⟩
  have loop : codeAny (model X.prog X.w) X.A (.compLoop (.DictComp kx vx [⟨tg, iter, cs, 0⟩] sc pos) 0 (.ref it) (.ref D) (compEnvC sc cl C X.env)) (compPost (model X.prog X.w) X.A X.xe use Qf (.ref D) C) s4 := by
    refine compLoop_anyD (fun n s' => ∃ i H', Inv (cbX X sc s3 H3 C cl fp) [] (L2.wipe σ (own.map (·.2))) H' s' ∧ tn i s'.heap ∧ (∀ b ∈ fp, H' b = none) ∧ St i n H') ?_ m0 ⟨0, H3, I4, st4, nfp, w0⟩
    rintro n s5 ⟨i, H5, I5, st5, n5, w5⟩
    rcases turn i n H5 w5 with ⟨stop, qq⟩ | ⟨go, Nx, hNx, step⟩
    · have td := T.done (cbX X sc s3 H3 C cl fp) rfl rfl rfl hc i [] s5 _ H5 (fun _ _ => False) I5 (sure I5 n5) st5 stop
      refine thnF td fun r s6 ⟨hr, I6⟩ => ?_
      subst hr
      have I7 : Inv X pins σ H5 s6 := I3.call' (ch := fp) I6.os I6.base I6.hok I6.bare fun b hb => let z := (f3 b hb).1; ⟨z.2.2.2.1, z.2.1, z.2.2.2.2.1, z.2.2.2.2.2⟩
      have nC : H5 C = none := I6.free
      obtain ⟨m, hn, _⟩ := I6.loc
      exact back D C s6 m H5 I7 qq hn (I3.fpOk (Nat.le_of_eq hC) nC)
    · have ti := T.item (cbX X sc s3 H3 C cl fp) rfl rfl rfl hc i [] s5 _ H5 (fun _ _ => False) I5 (sure I5 n5) st5 go
      refine thnF ti fun r s6 ⟨u, hr, h6⟩ => ?_
      subst hr
      refine thnF h6 fun _ s7 ⟨x, H7, I7, r7, y7, st7, n7⟩ => ?_
      have J7 := I7.pinned (sure I7 n7) (T.obj _ _ st7)
      refine thnF (pg.run _ s7 _ H7 x u _ J7 r7 (step x H7 y7)) fun _ s8 ⟨σ8, H8, I8, hw, q8⟩ => ?_
      refine thnF (pt.run _ s8 σ8 H8 _ I8 q8) fun b s9 ⟨H9, I9, q9⟩ => ?_
      have fin : ∀ (s' : Shared) (H' : Hp), Inv (cbX X sc s3 H3 C cl fp) ([] ++ pinsAt fp s7.heap) σ8 H' s' → Nx H' → ∃ m, m < n ∧ ∃ i H', Inv (cbX X sc s3 H3 C cl fp) [] (L2.wipe σ (own.map (·.2))) H' s' ∧ tn i s'.heap ∧ (∀ b ∈ fp, H' b = none) ∧ St i m H' := by
        intro s' H' I' nx
        obtain ⟨m', hm, w'⟩ := hNx H' nx
        have stay : ∀ b ∈ fp, ∀ o, s7.heap.get? b = some o → s'.heap.get? b = some o ∧ H' b = none := fun b hb o e =>
          let z := I'.pin (b, o) (List.mem_append_right _ (List.mem_append_right _ (mem_pinsAt hb e)))
          ⟨z.1, z.2.1⟩
        have hl : (L2.wipe σ (own.map (·.2))).length = σ8.length := by rw [← hw, wipe_length]
        refine ⟨m', hm, i + 1, H', (I'.unpinned (pins := [])).weak hl (fun j v e => by rw [← hw] at e; exact (wipe_some e).1), T.keep _ _ _ st7 fun b hb o e => (stay b hb o e).1, fun b hb => ?_, w'⟩
        obtain ⟨o, e, _⟩ := T.obj _ _ st7 b hb
        exact (stay b hb o e).2
      cases b with
      | false =>
        rw [if_neg (by decide)] at q9 ⊢
        exact fin _ _ I9 q9
      | true =>
        rw [if_pos rfl] at q9 ⊢
        refine thnF (pk.run _ s9 σ8 H9 _ I9 q9) fun z s10 ⟨yk, H10, I10, r10, q10⟩ => ?_
        refine thnF (pv.run _ s10 σ8 H10 _ I10 q10) fun z2 s11 ⟨yv, H11, I11, r11, nx⟩ => ?_
        exact put_H (X := cbX X sc s3 H3 C cl fp) hu hy I11 r10 r11 nx fin
  exact codeAny_compStart_dict loop (T.self X.A 0 _ _ _ st4 loop)

theorem pe_dcm {kx vx tg iter : Expr} {cs : List Expr} {sc : Scope} {own : List (Str × Nat)} {pos : Pos} {wi : TI} {g : TG} {tt : TT} {tk tv : TE} (hu : X.A.units + 64 < cLine) (hy : Y.w = X.w) (hc : X.calm = true) (hN : X.N.Nodup) (hi : PI X tg iter wi) (ok : BlkOk X.N X.env.scope sc own)
    (ps : DcParts X sc tg cs kx vx g tt tk tv) (hs : ∀ x, foldedSetIterable iter X.env x = pure x) : PE X (.DictComp kx vx [⟨tg, iter, cs, 0⟩] sc pos) (tDcm Y wi g tt tk tv (own.map (·.2))) := by
  refine ⟨fun pins s σ H Q I h => ?_⟩
  rw [arm_eval_DictComp]
  refine dcm_core hu hy hc hN I hi ok ps hs h fun D C s' m H' I' q hn f => ⟨m, hn, fun h'' sb => ?_⟩
  exact ⟨.ref D, H', I'.turned (t' := s'.toks) (fun b o hb e => (sb.2 b hb).trans e) f.1 f.2.1 f.2.2.2.1 f.2.2.2.2.1 f.2.2.2.2.2, rfl, q⟩
end
def compD (ok : MHp → Prop) (g : MG) (t : MT) (ek ev : ME) (s0 : MSt) : List MV → List MV → List MV → MHp → (List MV → List MV → MHp → Prop) → Prop
  | [], ks, vs, h, Q => ok h ∧ Q ks vs h
  | x :: xs, ks, vs, h, Q => ok h ∧ g x s0 h (fun s1 h1 => t s1 h1 (fun b h2 => if b = true then ek s1 h2 (fun k h3 => ev s1 h3 (fun v h4 => ∃ q, tkey k = some q ∧ ks.length < 16777216 ∧ compD ok g t ek ev s0 xs (dPutK ks k q) (dPutW ks vs q v) h4 Q) NoE) NoE
      else compD ok g t ek ev s0 xs ks vs h2 Q) NoE) NoE
def mDc (mi : MI) (g : MG) (t : MT) (ek ev : ME) (own : List Nat) : ME := fun s h Q E => mi s h (fun xs ok h1 => compD ok g t ek ev (wipeM s own) xs [] [] h1 (fun ks vs h2 => ∀ ep, Q (.ref h2.length) (h2 ++ [.dct ep ks vs]))) E
theorem wipe_mem {s : L2.St} {u : Nat} : ∀ ws : List Nat, u ∈ ws → (L2.wipe s ws).set u none = L2.wipe s ws
  | [], h => nomatch h
  | w :: ws, h => by
    show ((L2.wipe s ws).set w none).set u none = (L2.wipe s ws).set w none
    by_cases ew : w = u
    · subst ew; rw [List.set_set]
    · rw [List.set_comm _ _ ew, wipe_mem ws ((List.mem_cons.mp h).resolve_left fun e => ew e.symm)]
theorem wipe_two (s : L2.St) (vs : List Nat) : L2.wipe (L2.wipe s vs) vs = L2.wipe s vs := by
  have key : ∀ us : List Nat, (∀ u ∈ us, u ∈ vs) → L2.wipe (L2.wipe s vs) us = L2.wipe s vs := by
    intro us
    induction us with
    | nil => intro _; rfl
    | cons u us ih =>
      intro hu
      show (L2.wipe (L2.wipe s vs) us).set u none = _
      rw [ih fun w hw => hu w (List.mem_cons_of_mem _ hw), wipe_mem vs (hu u List.mem_cons_self)]
  exact key vs fun _ h => h
abbrev dtG (Y : Lay) (vs : List Nat) (g : MG) : TG := fun x s H Q => ∃ D, tMGo (Y.hide D) vs g x s H Q
abbrev dtT (Y : Lay) (t : MT) : TT := fun s H Q => ∃ D, tMT (Y.hide D) NoW t s H Q
abbrev dtE (Y : Lay) (e : ME) : TE := fun s H Q => ∃ D, tM (Y.hide D) NoW e s H Q
theorem dc_read {Y : Lay} {W : WX} {mi : MI} {g : MG} {t : MT} {ek ev : ME} {own : List Nat} {K : List MV → List MV → MHp → MQ → Prop} {s : L2.St} {H : Hp} {Q : VK}
    (h : tM Y W (fun s h Q E => mi s h (fun xs ok h1 => compD ok g t ek ev (wipeM s own) xs [] [] h1 (fun ks vs h2 => K ks vs h2 Q)) E) s H Q)
    (hK : ∀ ι hm H ks vs es ep Qm (D : Addr) H0, HR (Y.hide D) ι hm H → Off Y ι hm.length D → H D = some (dO Y.w D ep es) → DGood D ks es → RepAll (Y.hide D) ι hm.length H ks (es.map (·.2.1)) → RepAll (Y.hide D) ι hm.length H vs (es.map (·.2.2)) → K ks vs hm Qm →
      (∀ n ι0, n ≤ hm.length → Ext n hm.length ι0 ι H0 H → H0 D = none → TrQ Y ι0 n H0 Qm Q → Q (.ref D) H)) :
    tDcm Y (tMI Y W mi) (dtG Y own g) (dtT Y t) (dtE Y ek) (dtE Y ev) own s H Q := by
  obtain ⟨ι, sm, hm, Qm, Em, hr, rs, q, tq, tx⟩ := h
  refine ⟨ι, sm, hm, _, Em, hr, rs, q, tx, fun xs ok h1 ι1 H1 J hr1 e1 jr q1 D ep0 hD hsys => ?_⟩
  have hfree : ∀ a, (Y.hid a ∨ a = D) → Y.hid a ∨ H1 a = none := fun a ha => ha.imp id fun z => by rw [z]; exact hD
  have tq1 := tq.mono e1 hr.live hr1.live
  have rs1 := (rs.mono e1 hr.live).wipe own
  have hidD : (Y.hide D).hid D := .inr rfl
  refine ⟨fun i k H' => ∃ ι' hm' ks vs es ep, HR (Y.hide D) ι' hm' H' ∧ H' D = some (dO Y.w D ep es) ∧ DGood D ks es ∧ RepAll (Y.hide D) ι' hm'.length H' ks (es.map (·.2.1)) ∧ RepAll (Y.hide D) ι' hm'.length H' vs (es.map (·.2.2)) ∧
      compD ok g t ek ev (wipeM sm own) (xs.drop i) ks vs hm' (fun ks vs h2 => K ks vs h2 Qm) ∧ Ext h1.length hm'.length ι1 ι' H1 H' ∧ k = xs.length - i ∧ i ≤ xs.length,
    ⟨_, ι1, h1, [], [], [], ep0, hr1.hideNew hD _, upd_same, dgood_nil hsys, .nil, .nil, q1, Ext.new hD, rfl, Nat.zero_le _⟩, ?_⟩
  rintro i k H2 ⟨ι2, hm2, ks, vs, es, ep, hr2, hD2, g2, ra2, rb2, q2, e2, rfl, hi2⟩
  cases e : xs[i]? with
  | none =>
    have hd : xs.drop i = [] := List.drop_eq_nil_of_le (List.getElem?_eq_none_iff.mp e)
    rw [hd] at q2
    have off : Off Y ι2 hm2.length D := by
      refine ⟨fun z => ?_, (hr2.hid D hidD).2⟩
      obtain ⟨u, hu⟩ := (hr1.hid D z).1
      rw [hD] at hu
      cases hu
    exact .inl ⟨((jr _ hfree ι2 hm2 H2 hr2 e2 q2.1) i).1 e, hK ι2 hm2 H2 ks vs es ep Qm D H1 hr2 off hD2 g2 ra2 rb2 q2.2 h1.length ι1 e2.le e2 hD tq1⟩
  | some v =>
    obtain ⟨hlt, ev'⟩ := List.getElem?_eq_some_iff.mp e
    have hd : xs.drop i = v :: xs.drop (i + 1) := by rw [List.drop_eq_getElem_cons hlt, ev']
    rw [hd] at q2
    obtain ⟨go, y⟩ := ((jr _ hfree ι2 hm2 H2 hr2 e2 q2.1) i).2 v e
    refine .inr ⟨go, fun H' => ∃ ι' hm' ks vs es ep, HR (Y.hide D) ι' hm' H' ∧ H' D = some (dO Y.w D ep es) ∧ DGood D ks es ∧ RepAll (Y.hide D) ι' hm'.length H' ks (es.map (·.2.1)) ∧ RepAll (Y.hide D) ι' hm'.length H' vs (es.map (·.2.2)) ∧
        compD ok g t ek ev (wipeM sm own) (xs.drop (i + 1)) ks vs hm' (fun ks vs h2 => K ks vs h2 Qm) ∧ Ext h1.length hm'.length ι1 ι' H1 H',
      fun H' ⟨ι', hm', ks, vs, es, ep, a1, a2, a3, a4, a5, a6, a7⟩ => ⟨_, by omega, ι', hm', ks, vs, es, ep, a1, a2, a3, a4, a5, a6, a7, rfl, hlt⟩, fun x H3 yl => ?_⟩
    obtain ⟨hr3, e3, r3⟩ := y x H3 yl
    have e13 := e2.trans e3 hr1.live hr2.live
    have hD3 : H3 D = some (dO Y.w D ep es) := e3.keep D _ hD2 (hr2.hid D hidD).2
    have rs3 : RS (Y.hide D) ι2 hm2.length H3 (wipeM sm own) (L2.wipe s own) := by
      refine ⟨rs1.1, fun j u eu => ?_⟩
      obtain ⟨z, hz, rz⟩ := rs1.2 j u eu
      exact ⟨z, hz, (rz.rehid hfree).mono e13 hr1.live⟩
    refine ⟨D, ι2, wipeM sm own, hm2, v, _, hr3, rs3, r3, q2.2, fun sm4 h4 ι4 H4 s4 hr4 e4 rs4 hw4 q4 => ?_⟩
    refine ⟨hw4.trans (wipe_two s own), ?_⟩
    have hD4 : H4 D = some (dO Y.w D ep es) := e4.keep D _ hD3 (hr3.hid D hidD).2
    refine ⟨D, ι4, sm4, h4, _, NoE, hr4, rs4, q4, fun b h5 ι5 H5 hr5 e5 q5 => ?_, trX_no⟩
    have hD5 : H5 D = some (dO Y.w D ep es) := e5.keep D _ hD4 (hr4.hid D hidD).2
    have e15 := (e13.trans e4 hr1.live hr3.live).trans e5 hr1.live hr4.live
    have ra5 := ((ra2.mono e3 hr2.live).mono e4 hr3.live).mono e5 hr4.live
    have rb5 := ((rb2.mono e3 hr2.live).mono e4 hr3.live).mono e5 hr4.live
    cases b with
    | false => exact iteF ⟨ι5, h5, ks, vs, es, ep, hr5, hD5, g2, ra5, rb5, q5, e15⟩
    | true =>
      have rs5 := rs4.mono e5 hr4.live
      refine iteT ⟨D, ι5, sm4, h5, _, NoE, hr5, rs5, q5, fun kq h6 ι6 H6 z hr6 e6 r6 q6 => ?_, trX_no⟩
      have hD6 : H6 D = some (dO Y.w D ep es) := e6.keep D _ hD5 (hr5.hid D hidD).2
      refine ⟨D, ι6, sm4, h6, _, NoE, hr6, rs5.mono e6 hr5.live, q6, fun w h7 ι7 H7 z7 hr7 e7 r7 ⟨qk, hq, hl, q7⟩ => ?_, trX_no⟩
      have hD7 : H7 D = some (dO Y.w D ep es) := e7.keep D _ hD6 (hr6.hid D hidD).2
      have ra7 := (ra5.mono e6 hr5.live).mono e7 hr6.live
      have rb7 := (rb5.mono e6 hr5.live).mono e7 hr6.live
      refine ⟨ι7, h7, ep, ks, vs, es, qk, kq, w, hr7, r6.mono e7 hr6.live, r7, hD7, g2, ra7, rb7, hq, hl, fun ep' es' g' k1 k2 => ?_⟩
      have e17 := (e15.trans e6 hr1.live hr5.live).trans e7 hr1.live hr6.live
      exact ⟨ι7, h7, _, _, es', ep', hr7.updH hidD hD7 rfl, upd_same, g', k1.updH hidD hD7 rfl, k2.updH hidD hD7 rfl, q7, e17.updF hD⟩
section
variable {Y : Lay} {W : WX} {X : Cx} {mi : MI} {g : MG} {t : MT} {ek ev : ME} {kx vx tg iter : Expr} {cs : List Expr} {sc : Scope} {own : List (Str × Nat)} {pos : Pos}
theorem kDc {ι : Nat → Addr} {hm : MHp} {H : Hp} {ks vs : List MV} {es : List DEnt} {ep : Nat} {Qm : MQ} {D : Addr} {H0 : Hp} {Q : VK} (hr : HR (Y.hide D) ι hm H) (off : Off Y ι hm.length D) (hD : H D = some (dO Y.w D ep es)) (gd : DGood D ks es)
    (ra : RepAll (Y.hide D) ι hm.length H ks (es.map (·.2.1))) (rb : RepAll (Y.hide D) ι hm.length H vs (es.map (·.2.2))) (k : ∀ ep, Qm (.ref hm.length) (hm ++ [.dct ep ks vs]))
    (n : Nat) (ι0 : Nat → Addr) (hn : n ≤ hm.length) (e : Ext n hm.length ι0 ι H0 H) (h0 : H0 D = none) (tq : TrQ Y ι0 n H0 Qm Q) : Q (.ref D) H := by
  have z := tq _ _ _ H (.ref (snocι ι hm.length D hm.length)) (hr.prom (c := .dct ep ks vs) off.1 ⟨es, hD, gd, ra, rb⟩) (e.prom hn h0) (.ref (by simp)) (k ep)
  rwa [snocι_at] at z
structure DcOwn (Y : Lay) (X : Cx) (sc : Scope) (own : List (Str × Nat)) (tg : Expr) (cs : List Expr) (kx vx : Expr) (g : MG) (t : MT) (ek ev : ME) : Prop where
  tgt : ∀ (D : Addr) s H C cl fp, SGo (Y.hide D) (cbX X sc s H C cl fp) (own.map (·.2)) g tg
  ifs : ∀ (D : Addr) s H C cl fp, STs (Y.hide D) NoW (cbX X sc s H C cl fp) t cs
  key : ∀ (D : Addr) s H C cl fp, SE (Y.hide D) NoW (cbX X sc s H C cl fp) ek kx
  val : ∀ (D : Addr) s H C cl fp, SE (Y.hide D) NoW (cbX X sc s H C cl fp) ev vx
theorem DcOwn.parts (p : DcOwn Y X sc own tg cs kx vx g t ek ev) : DcParts X sc tg cs kx vx (dtG Y (own.map (·.2)) g) (dtT Y t) (dtE Y ek) (dtE Y ev) where
  tgt := fun s H C cl fp => pgU fun D => p.tgt D s H C cl fp
  ifs := fun s H C cl fp => ptsU fun D => p.ifs D s H C cl fp
  key := fun s H C cl fp => peU fun D => p.key D s H C cl fp
  val := fun s H C cl fp => peU fun D => p.val D s H C cl fp
theorem sn_dc (hu : X.A.units + 64 < cLine) (hy : Y.w = X.w) (hc : X.calm = true) (hN : X.N.Nodup) (hi : SI Y W X mi tg iter) (ok : blkC X.N X.env.scope sc own = true) (p : DcOwn Y X sc own tg cs kx vx g t ek ev) (hs : ∀ x, foldedSetIterable iter X.env x = pure x := by intro _; rfl) :
    SE Y W X (mDc mi g t ek ev (own.map (·.2))) (.DictComp kx vx [⟨tg, iter, cs, 0⟩] sc pos) :=
  peI (pe_dcm hu hy hc hN hi (blkOk_by ok) p.parts hs) fun s H Q h =>
    dc_read (K := fun ks vs (h2 : MHp) (Q : MQ) => ∀ ep, Q (MV.ref h2.length) (h2 ++ [Cell.dct ep ks vs])) h fun ι hm H ks vs es ep Qm D H0 a1 a2 a3 a4 a5 a6 a7 n ι0 b1 b2 b3 b4 => kDc a1 a2 a3 a4 a5 a6 a7 n ι0 b1 b2 b3 b4
end
end Mini
namespace Mini
open PySem PySem.Spec PyProof.Rows L2
section
variable {Y : Lay} {X : Cx}
end
end Mini
namespace Mini
open PySem PySem.Spec PySem.W PyProof.Rows L2
section
variable {prog : Program} {w : World} {A : Around} {E : Value → Shared → Prop} {s : Shared}
end
section
variable {Y : Lay} {W : WX} {X : Cx} {ι : Nat → Addr} {n : Nat} {H : Hp} {pins : List (Addr × Obj)} {σ : L2.St} {s : Shared}
end
end Mini
namespace Mini
open PySem PySem.Spec PySem.W PyProof.Rows L2
def tyDc (w : World) (x : V) (H : Hp) : Prop := ∃ a ep es, x = .ref a ∧ H a = some (dO w a ep es)
def tDm (w : World) (r : V → List V → Hp → VK → Prop) (to : TE) (t : TA) : TE := fun σ H Q => to σ H fun x H1 => tyDc w x H1 ∧ t σ H1 fun xs H2 => r x xs H2 Q
section
variable {Y : Lay} {W : WX} {X : Cx} {o e : Expr} {es : List Expr} {to : TE} {t : TA} {name : Str} {apos cpos : Pos} {id : String} {r : V → List V → Hp → VK → Prop}
theorem tyDc_is {pins : List (Addr × Obj)} {σ : L2.St} {H : Hp} {s : Shared} {x : V} {v : Value} (I : Inv X pins σ H s) (r : RelV x v) (ty : tyDc X.w x H) : s.TypeIs v "dict" ∧ ∀ a, v = .ref a → ∃ ob, s.heap.get? a = some ob ∧ ob.dict = none := by
  obtain ⟨a, ep, es, rfl, ha⟩ := ty
  obtain rfl : v = Value.ref a := r
  obtain ⟨ob, ds, h1, h2, _⟩ := dict_at I ha
  exact ⟨⟨ob, h1, h2.1⟩, fun b e => by cases e; exact ⟨ob, h1, h2.2.1⟩⟩
theorem pe_dm (slot : Slot "dict" name id) (hty : typeOf (.builtin id) = pure (.type "method_descriptor")) (hm : MtR X id r) (ho : PE X o to) (ha : PA X (e :: es) t) (hbase : attributeBase o name X.env (eval o X.env) = eval o X.env)
    (hfew : ((backTo cpos (starEach (e :: es) X.env)).all (fun x => !x.1) && (backToKw cpos (keywordEach [] X.env)).all (fun x => x.1.isSome) && decide ((e :: es).length + ([] : List Keyword).length + (if ([] : List Keyword).isEmpty then 0 else 1) < 30)) = true)
    (hline : (apos.endLine == cpos.line) = true) (hs : starEach (e :: es) X.env = (false, eval e X.env) :: starEach es X.env) (hplain : (backTo cpos (starEach es X.env)).any (·.1) = false) : PE X (.Call (.Attribute o name apos) (e :: es) [] cpos) (tDm X.w r to t) := by
  refine ⟨fun pins s σ H Q I h => wpAny_Call_method_late hbase hfew hline rfl (thn (ho.run pins s σ H _ I h) fun v s1 ⟨x, H1, I1, r1, ty, q1⟩ => ?_)⟩
  obtain ⟨k1, k2⟩ := tyDc_is I1 r1 ty
  have hA := ha.run cpos pins s1 σ H1 _ I1 q1
  rw [hs] at hA
  refine ⟨"dict", id, PySem.F.plainAttrs_dict, slot, hty, k1, k2, ?_⟩
  rw [hs]
  refine Calls.callWith_builtin (by show (false || (backTo cpos (starEach es X.env)).any (·.1)) = false; rw [hplain] <;> rfl) (Calls.evalArgs_plain (thn hA fun us s2 ⟨vs, H2, I2, r2, q2⟩ => ?_))
  exact hm pins s2 σ H2 x vs v us Q I2 r1 r2 q2
def mDm (op : MV → List MV → MHp → MQ → Prop) (o : ME) (r : MA) : ME := fun s h Q E => o s h (fun v h1 => (dctOf h1 v).isSome = true ∧ r s h1 (fun vs h2 => op v vs h2 Q) E) E
theorem sn_dm {op : MV → List MV → MHp → MQ → Prop} {eo : ME} {a : MA} (slot : Slot "dict" name id) (hty : typeOf (.builtin id) = pure (.type "method_descriptor")) (hy : Y.w = X.w) (hm : MtR X id (RmM Y op)) (ho : SE Y W X eo o) (ha : SA Y W X a (e :: es))
    (hbase : attributeBase o name X.env (eval o X.env) = eval o X.env := by rfl)
    (hfew : ((backTo cpos (starEach (e :: es) X.env)).all (fun x => !x.1) && (backToKw cpos (keywordEach [] X.env)).all (fun x => x.1.isSome) && decide ((e :: es).length + ([] : List Keyword).length + (if ([] : List Keyword).isEmpty then 0 else 1) < 30)) = true := by rfl)
    (hline : (apos.endLine == cpos.line) = true := by rfl) (hs : starEach (e :: es) X.env = (false, eval e X.env) :: starEach es X.env := by rfl) (hplain : (backTo cpos (starEach es X.env)).any (·.1) = false := by rfl) :
    SE Y W X (mDm op eo a) (.Call (.Attribute o name apos) (e :: es) [] cpos) :=
  peI (pe_dm slot hty hm ho ha hbase hfew hline hs hplain) fun s H Q ⟨ι, sm, hm, Qm, Em, hr, rs, q, tq, tx⟩ => by
    refine ⟨ι, sm, hm, _, Em, hr, rs, q, fun v h1 ι1 H1 x hr1 e1 r1 q1 => ⟨?_, ?_⟩, tx⟩
    · obtain ⟨⟨ks, vs⟩, hd⟩ := Option.isSome_iff_exists.mp q1.1
      obtain ⟨a, ep, es, rfl, hh, _⟩ := dctOf_rep hr1 r1 hd
      rw [hy] at hh
      exact ⟨a, ep, es, rfl, hh⟩
    · refine ⟨ι1, sm, h1, _, Em, hr1, rs.mono e1 hr.live, q1.2, fun vs h2 ι2 H2 xs hr2 e2 r2 q2 => ?_, tx.mono e1 hr.live hr1.live⟩
      exact ⟨ι2, h2, v, vs, Qm, hr2, r1.mono e2 hr1.live, r2, q2, tq.mono (e1.trans e2 hr.live hr1.live) hr.live hr2.live⟩
def getM1 (v : MV) (vs : List MV) (h : MHp) (Q : MQ) : Prop := ∃ u ks ws q, vs = [u] ∧ dctOf h v = some (ks, ws) ∧ tkey u = some q ∧ Q ((dGet ks ws q).getD .non) h
def getM2 (v : MV) (vs : List MV) (h : MHp) (Q : MQ) : Prop := ∃ u x ks ws q, vs = [u, x] ∧ dctOf h v = some (ks, ws) ∧ tkey u = some q ∧ Q ((dGet ks ws q).getD x) h
theorem mt_get1 (hu : X.A.units + 64 < cLine) (hy : Y.w = X.w) : MtR X "dict.get" (RmM Y getM1) := by
  intro pins s σ H x xs v us Q I rx rs ⟨ι, hm, mv, vs, Qm, hr, r, ra, ⟨u, ks, ws, q, e, hd, hq, qq⟩, tq⟩
  subst e
  obtain ⟨y, rfl, ry⟩ := rep1 ra
  obtain ⟨kv, rfl, rk⟩ := vals1 rs
  obtain ⟨a, b, xs, rfl, rfl, hsy, hb, dd, lk⟩ := look_at hy I hr r ry hd hq
  obtain rfl : v = Value.ref a := rx
  cases rk
  refine call_meetsIn PySem.F.slot_dict_get dd.typeIs PySem.F.entry_dict_get (PySem.F.args_dict_get_2 _ _) (meetsH_dict_get (nestedKind X.prog X.w) a b hsy) ⟨show X.A.units + 1 + 8 < cLine by omega, q, xs, hb, dd, ?_⟩
  rcases lk with ⟨e1, e2, _⟩ | ⟨w, z, p, e1, e2, e3, e4, _⟩
  · rw [e1] at qq
    rw [e2]
    exact ⟨.non, H, I.tok _, rfl, tq.here hr .non qq⟩
  · rw [e1] at qq
    rw [e2]
    exact ⟨z, H, I.tok _, e4, tq.here hr e3 qq⟩
theorem mt_get2 (hu : X.A.units + 64 < cLine) (hy : Y.w = X.w) : MtR X "dict.get" (RmM Y getM2) := by
  intro pins s σ H x xs v us Q I rx rs ⟨ι, hm, mv, vs, Qm, hr, r, ra, ⟨u, d, ks, ws, q, e, hd, hq, qq⟩, tq⟩
  subst e
  cases ra with
  | cons ry ra2 =>
    obtain ⟨dv, rfl, rd⟩ := rep1 ra2
    cases rs with
    | cons rk rs2 =>
      cases rs2 with
      | cons rdv rs3 =>
        cases rs3 with
        | nil =>
          obtain ⟨a, b, xs, rfl, rfl, hsy, hb, dd, lk⟩ := look_at hy I hr r ry hd hq
          obtain rfl : v = Value.ref a := rx
          cases rk
          refine call_meetsIn PySem.F.slot_dict_get dd.typeIs PySem.F.entry_dict_get (PySem.F.args_dict_get_3 _ _ _) (meetsH_dict_get_default (nestedKind X.prog X.w) a b hsy _) ⟨show X.A.units + 1 + 8 < cLine by omega, q, xs, hb, dd, ?_⟩
          rcases lk with ⟨e1, e2, _⟩ | ⟨w, z, p, e1, e2, e3, e4, _⟩
          · rw [e1] at qq
            rw [e2]
            exact ⟨dv, H, I.tok _, rdv, tq.here hr rd qq⟩
          · rw [e1] at qq
            rw [e2]
            exact ⟨z, H, I.tok _, e4, tq.here hr e3 qq⟩
end
end Mini
namespace Mini
open PySem PySem.Spec PySem.W PyProof.Rows L2
section
variable {prog : Program} {w : World} {A : Around} {E : Value → Shared → Prop} {s : Shared}
end
section
variable {Y : Lay} {W : WX} {X : Cx}
end
end Mini
namespace Mini
open PySem PySem.Spec PySem.W PyProof.Rows L2
section
variable {Y : Lay} {W : WX} {X : Cx} {a b : ME} {ke ve : Expr} {pos : Pos}
end
end Mini
namespace Mini
open PySem PySem.Spec PySem.W PyProof.Rows L2
section
variable {Y : Lay} {ι : Nat → Addr} {n : Nat} {H : Hp} {a : Addr}
end
section
variable {Y : Lay} {X : Cx}
end
end Mini
namespace Mini
open PySem PySem.Spec PySem.W PySem.Calls PyProof.Rows L2
section
variable {prog : Program} {w : World} {A : Around} {E : Value → Shared → Prop} {s : Shared}
end
section
variable {Y : Lay} {X : Cx} {ι : Nat → Addr} {n : Nat} {H : Hp} {pins : List (Addr × Obj)} {σ : L2.St} {s : Shared}
theorem keys_vals {w : World} {es : List DEnt} {ds : List DictEntry} (p : Paired (fun (p : DEnt) (e : DictEntry) => e.hash = p.1.hash w ∧ RelV p.2.1 e.key ∧ RelV p.2.2 e.val) es ds) : Vals (es.map (·.2.1)) (ds.map (·.key)) := by
  induction p with
  | nil => exact .nil
  | cons h t ih => exact .cons h.2.1 ih
theorem items_keys {ds : Array DictEntry} {acc : Array Value} (it : ItemsOf (fun i v => ∃ hi : i < ds.size, v = ds[i].key) acc ds.size) : acc.toList = ds.toList.map (·.key) := by
  refine List.ext_getElem? fun i => ?_
  rw [Array.getElem?_toList, List.getElem?_map, Array.getElem?_toList]
  by_cases hi : i < ds.size
  · have ha : i < acc.size := by rw [it.1]; exact hi
    obtain ⟨h1, h2⟩ := it.2 i acc[i] (Array.getElem?_eq_getElem ha)
    rw [Array.getElem?_eq_getElem ha, Array.getElem?_eq_getElem hi, h2]
    rfl
  · rw [Array.getElem?_eq_none (by rw [it.1]; omega), Array.getElem?_eq_none (by omega)]
    rfl
end
end Mini
namespace Mini
open PySem PySem.Spec PySem.W PySem.Calls PyProof.Rows L2
section
variable {Y : Lay} {X : Cx}
def listDM (vs : List MV) (h : MHp) (Q : MQ) : Prop := ∃ v ks ws, vs = [v] ∧ dctOf h v = some (ks, ws) ∧ Q (.fl ks) h
theorem listD_run {H : Hp} {pins : List (Addr × Obj)} {σ : L2.St} {s : Shared} {a : Addr} {ep : Nat} {es : List DEnt} {xs : List MV} {Q : VK} (hc : X.calm = true) (I : Inv X pins σ H s) (ha : H a = some (dO X.w a ep es)) (g : DGood a xs es)
    (q : ∀ p, H p = none → Q (.ref p) (upd H p (.lst (es.map (·.2.1))))) : wpAny (model X.prog X.w) X.A (PySem.call (.type "list") [.ref a]) (EP X pins σ Q) X.xe s := by
  obtain ⟨o, ds, h1, h2, h3, h4⟩ := dict_at I ha
  have rv := keys_vals h4
  have hl1 := rv.length
  have hes := g.len
  have hds : ds.size = es.length := by
    rw [List.length_map, List.length_map, Array.length_toList] at hl1
    exact hl1.symm
  refine kdl_call (KdlSrc.rawDict (es := ds) (ep := ep) g.sys) (I.ok.hd hc) ⟨o, h1, h2, h3⟩ (by omega) fun h' tk acc c k1 hS it => ?_
  have hn : H s.heap.objs.size = none := I.hok.fresh (Nat.le_refl _)
  refine ⟨.ref s.heap.objs.size, _, I.laid (o := .lst (es.map (·.2.1))) (t' := tk) k1 (Nat.le_refl _) ?_, rfl, q _ hn⟩
  refine ⟨by rw [List.length_map]; exact hes, acc.toList, c, ?_, ?_⟩
  · rw [items_keys it]
    exact rv
  · exact hS
theorem call_listDM (hc : X.calm = true) (hy : Y.w = X.w) : CallR X (.type "list") (RNM Y listDM) := by
  intro pins s σ H xs us Q I rx ⟨ι, hm, vs, Qm, hr, ra, ⟨v, ks, ws, e, hd, q⟩, tq⟩
  subst e
  obtain ⟨x, rfl, r⟩ := rep1 ra
  obtain ⟨a, ep, es, rfl, ha, g, r1, r2⟩ := dctOf_rep hr r hd
  rw [hy] at ha
  rw [Vals.ref1 rx]
  exact listD_run hc I ha g fun p hp => tq.newL hr r1 q hp
end
end Mini
namespace Mini
open PySem PySem.Spec PySem.W PyProof.Rows L2
section
variable {Y : Lay} {W : WX} {X : Cx}
end
end Mini
namespace Mini
open PySem PySem.Spec PyProof.Rows L2
section
variable {Y : Lay} {W : WX} {X : Cx}
end
end Mini
namespace Mini
open PySem PySem.Spec PyProof.Rows L2
section
variable {Y : Lay} {W : WX} {X : Cx}
end
section
variable {Y : Lay} {W : WX} {X : Cx}
end
end Mini
namespace Mini
open PySem PySem.Spec PyProof.Rows L2
def insOf (h : MHp) (v : MV) : Option (Nat × List MV) := match v with
  | .fi c xs => some (c, xs)
  | .ref n => (match h[n]? with
    | some (.ins c xs) => some (c, xs)
    | _ => none)
  | _ => none
section
variable {Y : Lay} {ι : Nat → Addr} {H : Hp} {hm : MHp} {v : MV} {x : V} {c : Nat} {xs : List MV}
theorem insOf_rep (hr : HR Y ι hm H) (r : Rep Y ι hm.length H v x) (h : insOf hm v = some (c, xs)) : ∃ a dx ys, x = .ref a ∧ H a = some (.ins (Y.cls c) dx ((Y.fld c).zip ys)) ∧ ys.length ≤ (Y.fld c).length ∧ RepAll Y ι hm.length H xs ys := by
  cases r with
  | fi e o g r => cases h; exact ⟨_, _, _, rfl, e, g, r⟩
  | @ref i hi =>
    unfold insOf at h
    cases e : hm[i]? with
    | none => simp only [e] at h; cases h
    | some d =>
      cases d with
      | ins c2 zs =>
        simp only [e] at h
        cases h
        obtain ⟨dx, ys, e1, g, r⟩ := hr.cell i _ e
        exact ⟨_, dx, ys, rfl, e1, g, r⟩
      | _ => simp only [e] at h; cases h
  | _ => cases h
end
theorem zip_lookup {f : Str} {y : V} : ∀ {fs : List Str} {ys : List V} {i : Nat}, fs.Nodup → fs[i]? = some f → ys[i]? = some y → (fs.zip ys).lookup f = some y
  | [], _, _, _, h, _ => by cases h
  | g :: fs, [], _, _, _, h => by cases h
  | g :: fs, y0 :: ys, 0, _, h1, h2 => by
    rw [List.getElem?_cons_zero] at h1 h2
    cases h1
    cases h2
    rw [List.zip_cons_cons, List.lookup_cons, beq_self_eq_true]
  | g :: fs, y0 :: ys, i + 1, nd, h1, h2 => by
    rw [List.getElem?_cons_succ] at h1 h2
    have hn := List.nodup_cons.mp nd
    have : (f == g) = false := by
      rw [beq_eq_false_iff_ne]
      intro e
      exact hn.1 (e ▸ List.mem_of_getElem? h1)
    rw [List.zip_cons_cons, List.lookup_cons, this]
    exact zip_lookup hn.2 h1 h2
theorem zip_noF {f : Str} : ∀ {fs : List Str} {ys : List V}, f ∉ fs → (fs.zip ys).lookup f = none
  | [], _, _ => rfl
  | _ :: _, [], _ => rfl
  | g :: fs, y :: ys, h => by
    have this : (f == g) = false := by rw [beq_eq_false_iff_ne]; exact fun e => h (by rw [e]; exact List.mem_cons_self)
    rw [List.zip_cons_cons, List.lookup_cons, this]
    exact zip_noF fun z => h (List.mem_cons_of_mem _ z)
def putAt {α : Type} (xs : List α) (i : Nat) (y : α) : List α := if i < xs.length then xs.set i y else xs ++ [y]
theorem putAt_len {α : Type} {xs : List α} {i n : Nat} {y : α} (h : i < n) (hx : xs.length ≤ n) (hi : i ≤ xs.length) : (putAt xs i y).length ≤ n := by
  unfold putAt
  split
  · rw [List.length_set]; exact hx
  · rw [List.length_append, List.length_singleton]; omega
theorem putF_zip {f : Str} {y : V} : ∀ {fs : List Str} {ys : List V} {i : Nat}, fs.Nodup → fs[i]? = some f → i ≤ ys.length → ys.length ≤ fs.length → putF f y (fs.zip ys) = fs.zip (putAt ys i y)
  | [], _, _, _, h, _, _ => by cases h
  | g :: fs, [], 0, _, h, _, _ => by
    rw [List.getElem?_cons_zero] at h
    cases h
    show [(f, y)] = (f :: fs).zip [y]
    rw [List.zip_cons_cons, List.zip_nil_right]
  | g :: fs, [], i + 1, _, _, h, _ => absurd h (Nat.not_succ_le_zero i)
  | g :: fs, y0 :: ys, 0, _, h, _, _ => by
    rw [List.getElem?_cons_zero] at h
    cases h
    show (if f = f then (f, y) :: fs.zip ys else _) = _
    rw [if_pos rfl]
    rfl
  | g :: fs, y0 :: ys, i + 1, nd, h, h1, h2 => by
    rw [List.getElem?_cons_succ] at h
    have hn := List.nodup_cons.mp nd
    have hne : ¬ g = f := fun e => hn.1 (e ▸ List.mem_of_getElem? h)
    show (if g = f then (g, y) :: fs.zip ys else (g, y0) :: putF f y (fs.zip ys)) = _
    rw [if_neg hne, putF_zip hn.2 h (Nat.le_of_succ_le_succ h1) (Nat.le_of_succ_le_succ h2)]
    unfold putAt
    rw [List.length_cons]
    by_cases hi : i < ys.length
    · rw [if_pos hi, if_pos (Nat.succ_lt_succ hi)]
      rfl
    · rw [if_neg hi, if_neg (fun z => hi (Nat.lt_of_succ_lt_succ z))]
      rfl
def mFld (c i : Nat) (a : ME) : ME := fun s h Q E => a s h (fun v h1 => ∃ xs y, insOf h1 v = some (c, xs) ∧ xs[i]? = some y ∧ Q y h1) E
def mSetF (c i : Nat) (o v : ME) : MS := fun s h D => v s h (fun y h1 => o s h1 (fun x h2 => ∃ n xs, x = .ref n ∧ h2[n]? = some (.ins c xs) ∧ i ≤ xs.length ∧ D.nx s (h2.set n (.ins c (putAt xs i y)))) (fun e h' => D.ex e s h')) (fun e h' => D.ex e s h')
def mMeth (c : Nat) (sem : Sem) (o : ME) (a : MA) : ME := fun s h Q E => o s h (fun v h1 => (∃ xs, insOf h1 v = some (c, xs)) ∧ a s h1 (fun vs h2 => sem (v :: vs) h2 Q E) E) E
section
variable {Y Y0 : Lay} {W : WX} {X : Cx} {k c i : Nat} {f : Addr} {fd : FuncData} {ps : List Str} {sem : Sem} {n m x : Str} {o v : ME} {a : MA} {e e0 : Expr} {es : List Expr} {p pos apos : Pos}
theorem sn_fld (ha : SE Y W X o e) (cl : Cls X.K (Y.cls c)) (na : NoAttr X.K (Y.cls c) n) (nd : (Y.fld c).Nodup) (hf : (Y.fld c)[i]? = some n) (hb : attributeBase e n X.env (eval e X.env) = eval e X.env := by rfl) : SE Y W X (mFld c i o) (.Attribute e n pos) :=
  peI (pe_fld ha hb) fun s H Q h => by
    obtain ⟨ι, sm, hm, Qm, Em, hr, rs, q, tq, tx⟩ := h
    refine ⟨ι, sm, hm, _, Em, hr, rs, q, fun v h1 ι1 H1 x hr1 e1 r1 q1 => ?_, tx⟩
    obtain ⟨xs, y, e2, hi, q1⟩ := q1
    obtain ⟨b, dx, ys, rfl, ea, g, rr⟩ := insOf_rep hr1 r1 e2
    obtain ⟨z, hz, rz⟩ := rr.get hi
    exact ⟨b, _, dx, _, z, rfl, ea, cl, na, zip_lookup nd hf hz, (tq.mono e1 hr.live hr1.live).here hr1 rz q1⟩
theorem repAll_put {ι : Nat → Addr} {n : Nat} {H : Hp} {y : MV} {z : V} : ∀ {xs : List MV} {ys : List V} {i : Nat}, RepAll Y ι n H xs ys → Rep Y ι n H y z → RepAll Y ι n H (putAt xs i y) (putAt ys i z) := fun {xs ys i} r rz => by
  unfold putAt
  rw [r.length]
  split
  · have : ∀ {xs : List MV} {ys : List V} {i : Nat}, RepAll Y ι n H xs ys → RepAll Y ι n H (xs.set i y) (ys.set i z) := by
      intro xs
      induction xs with
      | nil => intro ys i r; cases r; exact .nil
      | cons x xs ih =>
        intro ys i r
        cases r with
        | cons r1 r2 =>
          cases i with
          | zero => exact .cons rz r2
          | succ i => exact .cons r1 (ih r2)
    exact this r
  · exact r.append (.cons rz .nil)
theorem ss_setF {pos' : Pos} (ho : SE Y W X o e0) (hv : SE Y W X v e) (cl : Cls X.K (Y.cls c)) (na : NoAttr X.K (Y.cls c) n) (nd : (Y.fld c).Nodup) (hf : (Y.fld c)[i]? = some n) (hl : (Y.fld c).length < 1000) (hs : swapsWith e (some (.Attribute e0 n pos')) pos.line X.env = pure false := by rfl) : SS Y W X (mSetF c i o v) (.Assign [.Attribute e0 n pos'] e pos) :=
  psI (ps_fld ho hv hs) fun D s H h => by
    obtain ⟨ι, sm, hm, Dm, hr, rs, q, td⟩ := h
    refine ⟨ι, sm, hm, _, _, hr, rs, q, fun v h1 ι1 H1 x hr1 e1 r1 q1 => ?_, td.ex.ex hr.live rs⟩
    refine ⟨ι1, sm, h1, _, _, hr1, rs.mono e1 hr.live, q1, fun u h2 ι2 H2 x2 hr2 e2 r2 q2 => ?_, (td.mono e1 hr.live hr1.live).ex.ex hr1.live (rs.mono e1 hr.live)⟩
    obtain ⟨j, xs, rfl, hj, hix, q2⟩ := q2
    cases r2 with
    | @ref _ hjl =>
      obtain ⟨dx, ys, ea, g, rr⟩ := hr2.cell j _ hj
      have hi : i < (Y.fld c).length := (List.getElem?_eq_some_iff.mp hf).1
      have hyl := rr.length
      refine ⟨ι2 j, _, dx, _, rfl, ea, cl, na, by rw [List.length_zip]; omega, ?_⟩
      rw [putF_zip nd hf (by omega) g]
      have ec := Ext.cell (ι := ι2) (H := H2) hjl (.ins (Y.cls c) dx ((Y.fld c).zip (putAt ys i x)))
      have hr3 : HR Y ι2 (h2.set j (.ins c (putAt xs i v))) _ := hr2.setCell hjl ⟨dx, _, upd_same, putAt_len hi g (by omega), (repAll_put rr (r1.mono e2 hr1.live)).mono ec hr2.live⟩
      have e12 := e1.trans e2 hr.live hr1.live
      have ec' : Ext h2.length (h2.set j (.ins c (putAt xs i v))).length ι2 ι2 H2 (upd H2 (ι2 j) (.ins (Y.cls c) dx ((Y.fld c).zip (putAt ys i x)))) := by rw [List.length_set]; exact ec
      have e13 := e12.trans ec' hr.live hr2.live
      exact td.nx _ _ _ _ _ hr3 e13 (rs.mono e13 hr.live) q2
theorem sn_meth {pl : PySem.Sem Bool} (ho : SE Y W X o e0) (cl : Cls X.K (Y.cls c)) (mt : Meth X.K (Y.cls c) m f) (hm0 : m ∉ Y.fld c) (F : FnG Y0 X.prog X.w X.K X.mg X.base k f fd ps sem) (hr : RoomG k X.A) (tk : Takes X W) (hb : Binds X.K fd ps []) (ha : SA Y W X a (e :: es)) (hy : Y = Y0.re Y.hid := by rfl)
    (hst : starEach (e :: es) X.env = (false, eval e X.env) :: starEach es X.env := by rfl) (hpl : (backTo pos (starEach es X.env)).any (·.1) = false := by rfl)
    (ht : eval (.Call (.Attribute e0 m apos) (e :: es) [] pos) X.env = (do
      let ov ← eval e0 X.env
      standAt apos.atName
      let (f, first) ← holding [ov] (getMethod ov m pl)
      callWith pos f first (backTo pos (starEach (e :: es) X.env)) (backToKw pos (keywordEach [] X.env))) := by rfl) :
    SE Y W X (mMeth c sem o a) (.Call (.Attribute e0 m apos) (e :: es) [] pos) := by
  refine ⟨fun pins s σ H Q I h => ?_⟩
  obtain ⟨ι, sm, hm', Qm, Em, hR, rs, q, tq, tx⟩ := h
  have q0 := ho.run pins s σ H (fun x H1 => ∃ ι1 h1 v, HR Y ι1 h1 H1 ∧ Ext hm'.length h1.length ι ι1 H H1 ∧ Rep Y ι1 h1.length H1 v x ∧ (∃ xs, insOf h1 v = some (c, xs)) ∧ a sm h1 (fun vs h2 => sem (v :: vs) h2 Qm Em) Em) I
    ⟨ι, sm, hm', _, Em, hR, rs, q, fun v h1 ι1 H1 x hr1 e1 r1 q1 => ⟨ι1, h1, v, hr1, e1, r1, q1.1, q1.2⟩, tx⟩
  refine PySem.W.methodCall_KW (pl := pl) (thn q0 fun ov t1 ⟨x, H1, I1, rx, ι1, h1, v, hr1, e1, r1, ⟨xs, hi⟩, q1⟩ => ?_) ht
  obtain ⟨b, dx, ys, rfl, eb, g, rr⟩ := insOf_rep hr1 r1 hi
  obtain rfl : ov = Value.ref b := rx
  refine getmeth_ok I1 eb cl mt (zip_noF hm0) ?_
  have q2 := ha.run pos pins t1 σ H1 (fun vs H2 => ∃ ι2 h2 ws, HR Y ι2 h2 H2 ∧ Ext h1.length h2.length ι1 ι2 H1 H2 ∧ RepAll Y ι2 h2.length H2 ws vs ∧ sem (v :: ws) h2 Qm Em) I1
    ⟨ι1, sm, h1, _, Em, hr1, rs.mono e1 hR.live, q1, fun vs h2 ι2 H2 ws hr2 e2 r2 q2 => ⟨ι2, h2, vs, hr2, e2, r2, q2⟩, tx.mono e1 hR.live hr1.live⟩
  refine PySem.W.callWith_K (first := [.ref b]) (h₀ := X.base) I1.ok.mod.kin mt.kp (thn q2 fun us t2 ⟨vs, H2, I2, r, ι2, h2, ws, hr2, e2, r2, q3⟩ => ⟨I2.kIn, ?_⟩) hst hpl
  have e12 := e1.trans e2 hR.live hr1.live
  exact run_fnM (us := .ref b :: us) (vs := .ref b :: vs) hy F hr tk hb I2 (.cons rfl r) hr2 (.cons (r1.mono e2 hr1.live) r2) q3 (tq.mono e12 hR.live hr2.live) (tx.mono e12 hR.live hr2.live)
theorem run_makeM {pins : List (Addr × Obj)} {σ : L2.St} {H : Hp} {s : Shared} {Q : VK} {us : List Value} {vs : List V} {ι : Nat → Addr} {hm : MHp} {ws : List MV} {Qm Em : MQ} (M : Mk X.K (Y.cls c) f) (hy : Y = Y0.re Y.hid) (F : FnG Y0 X.prog X.w X.K X.mg X.base k f fd ps sem) (hr : RoomG (k + 1) X.A) (tk : Takes X W) (hb : Binds X.K fd ps [])
    (I : Inv X pins σ H s) (r : Vals vs us) (hR : HR Y ι hm H) (hA : RepAll Y ι hm.length H ws vs) (h : sem (.ref hm.length :: ws) (hm ++ [.ins c []]) (fun v h2 => v = .non ∧ Qm (.ref hm.length) h2) Em) (tq : TrQ Y ι hm.length H Qm Q) (tx : TrX Y ι hm.length H σ Em W) :
    wpAny (model X.prog X.w) X.A (PySem.call (.ref (Y.cls c)) us) (EP X pins σ Q) X.xe s := by
  have hd : H s.heap.objs.size = none := I.hok.fresh (Nat.le_refl _)
  have hx : H (s.heap.objs.size + 1) = none := I.hok.fresh (Nat.le_succ _)
  have ne : s.heap.objs.size + 1 ≠ s.heap.objs.size := Nat.succ_ne_self _
  have I2 := Inv.made (C := Y.cls c) I
  have hR1 : HR Y ι hm (upd H s.heap.objs.size (.own (s.heap.objs.size + 1))) := hR.new hd
  have e1 : Ext hm.length hm.length ι ι H (upd H s.heap.objs.size (.own (s.heap.objs.size + 1))) := Ext.new hd
  have hx1 : upd H s.heap.objs.size (.own (s.heap.objs.size + 1)) (s.heap.objs.size + 1) = none := by rw [upd_ne ne]; exact hx
  generalize hH2 : upd (upd H s.heap.objs.size (.own (s.heap.objs.size + 1))) (s.heap.objs.size + 1) (.ins (Y.cls c) s.heap.objs.size []) = H2 at I2
  have hR2 : HR Y (snocι ι hm.length (s.heap.objs.size + 1)) (hm ++ [.ins c []]) H2 := by
    rw [← hH2]
    exact hR1.snoc (c := .ins c []) hx1 ⟨s.heap.objs.size, [], by rw [upd_same, List.zip_nil_right], Nat.zero_le _, .nil⟩
  have e2 : Ext hm.length (hm ++ [Cell.ins c []]).length ι (snocι ι hm.length (s.heap.objs.size + 1)) H H2 := by
    rw [← hH2, List.length_append]
    exact e1.trans (Ext.snoc hx1) hR.live hR1.live
  have hA2 : RepAll Y (snocι ι hm.length (s.heap.objs.size + 1)) (hm ++ [Cell.ins c []]).length H2 (.ref hm.length :: ws) (.ref (s.heap.objs.size + 1) :: vs) := by
    refine .cons ?_ (hA.mono e2 hR.live)
    have z := Rep.ref (Y := Y) (ι := snocι ι hm.length (s.heap.objs.size + 1)) (n := (hm ++ [Cell.ins c []]).length) (H := H2) (i := hm.length) (by rw [List.length_append]; exact Nat.lt_succ_self _)
    rwa [snocι_at] at z
  have r2 : Vals (V.ref (s.heap.objs.size + 1) :: vs) (Value.ref (s.heap.objs.size + 1) :: us) := .cons rfl r
  have tq2 : TrQ Y (snocι ι hm.length (s.heap.objs.size + 1)) (hm ++ [Cell.ins c []]).length H2 (fun v h2 => v = .non ∧ Qm (.ref hm.length) h2) (fun v H3 => v = .non ∧ Q (.ref (s.heap.objs.size + 1)) H3) := by
    have t := tq.mono e2 hR.live hR2.live
    intro v h3 ι3 H3 x hr3 e3 rv q
    obtain ⟨rfl, q⟩ := q
    cases rv
    refine ⟨rfl, t _ _ _ _ _ hr3 e3 ?_ q⟩
    have z := Rep.ref (Y := Y) (ι := ι3) (n := h3.length) (H := H3) (i := hm.length) (by have := e3.le; rw [List.length_append] at this; exact this)
    rwa [e3.same _ (by rw [List.length_append]; exact Nat.lt_succ_self _), snocι_at] at z
  have tx2 := tx.mono e2 hR.live hR2.live
  have hl : (Value.ref (s.heap.objs.size + 1) :: us ++ []).length = ps.length := by
    rw [List.append_nil, ← r2.length, ← hA2.length]
    exact F.len _ _ _ _ h
  have hb' := hb _ (Value.ref (s.heap.objs.size + 1) :: us) I2.kIn hl
  rw [List.append_nil] at hb'
  have hr2 : RoomG k (X.A.under (.builtin "type.__call__" ⟨.ref (Y.cls c) :: us, []⟩)) := ⟨hr.rm.make (Y.cls c) us [], hr.gd⟩
  have go := F.run Y.hid _ X.stack _ H2 ⟨Value.ref (s.heap.objs.size + 1) :: us, []⟩ _ _ (fun v H3 => v = .non ∧ Q (.ref (s.heap.objs.size + 1)) H3) (fun c d H' => W c d σ H') _ _ _ _ Em hr2 (I2.env0.make (Y.cls c) us []) hb' r2 (hy ▸ hR2) (hy ▸ hA2) h (hy ▸ tq2) (hy ▸ fun e h' ι' H' c d a1 a2 a3 a4 => tx2 e h' ι' H' c d a1 a2 a3 a4)
  refine wpAny_call (make_map (f := f) I.kIn M.makes M.init (beq_iff_eq.mp M.fn) (codeAny_mono go fun r s' hq => ?_))
  cases r with
  | error e => exact tk _ _ (XE.of_call I2 (fun _ _ _ w => w) hq)
  | ok fl =>
    cases fl with
    | ret u =>
      obtain ⟨v, H', I3, rv, ev, q3⟩ := I2.after hq
      subst ev
      exact ⟨rv, ⟨V.ref (s.heap.objs.size + 1), H', I3, rfl, q3⟩⟩
    | next => exact False.elim hq
    | brk => exact False.elim hq
    | cont => exact False.elim hq
end
end Mini
local macro_rules | `(tactic| walk_at "mx") => `(tactic| try simp only [↓Mini.hold_val, ↓Mini.withC_l, ↓Mini.withV_s, ↓Mini.withN_s, ↓Mini.bV_b, ↓Mini.iV_i, ↓Mini.mC_at, ↓Mini.mInt_at, ↓Mini.mBl_at, ↓Mini.mNon_at, ↓Mini.mStr_at, ↓Mini.mVar0, ↓Mini.mVar1, ↓Mini.mVar2, ↓Mini.mVar3, ↓Mini.mVar4, ↓Mini.mVar5, ↓Mini.mVar6, ↓Mini.mVar7, ↓Mini.mVar8, ↓Mini.mVar9, ↓Mini.mVar10, ↓Mini.mVar11, ↓Mini.mVar12, ↓Mini.mVar13, ↓Mini.mVar14, ↓Mini.mVar15, ↓Mini.mVar16, ↓Mini.mVar17, ↓Mini.mVar18, ↓Mini.mVar19, ↓Mini.mVar20, ↓Mini.mVar21, ↓Mini.mVar22, ↓Mini.mVar23, ↓Mini.gN0, ↓Mini.gN1, ↓Mini.gN2, ↓Mini.gN3, ↓Mini.gN4, ↓Mini.gN5, ↓Mini.gN6, ↓Mini.gN7, ↓Mini.gN8, ↓Mini.gN9, ↓Mini.gN10, ↓Mini.gN11, ↓Mini.gN12, ↓Mini.gN13, ↓Mini.gN14, ↓Mini.gN15, ↓Mini.gN16, ↓Mini.gN17, ↓Mini.gN18, ↓Mini.gN19, ↓Mini.gN20, ↓Mini.gN21, ↓Mini.gN22, ↓Mini.gN23, ↓Mini.mOp2_at, ↓Mini.mOp1_at, ↓Mini.mNot_at, ↓Mini.tV_at, ↓Mini.tNo_at, ↓Mini.ifB_t, ↓Mini.ifB_f, ↓Mini.ifB_n, ↓Mini.tAn_at, ↓Mini.tOr_at, ↓Mini.tAll_at, ↓Mini.mAnd_at, ↓Mini.mOr_at, ↓Mini.mIfE_at, ↓Mini.aNil_at, ↓Mini.aCons_at, ↓Mini.mTup_at, ↓Mini.mLst_at, ↓Mini.mLstC_at, ↓Mini.mB_at, ↓Mini.mCall_at, ↓Mini.isL_fl, ↓Mini.isL_ref, ↓Mini.mMt_at, ↓Mini.mMt0_at, ↓Mini.mIsi_at, ↓Mini.mIsX_at, ↓Mini.mIsVE_at, ↓Mini.o1_isX, ↓Mini.o1_isVE, ↓Mini.isS_tuple_non, ↓Mini.isS_tuple_bl, ↓Mini.isS_tuple_int, ↓Mini.isS_tuple_str, ↓Mini.isS_tuple_tup, ↓Mini.isS_tuple_fl, ↓Mini.isS_tuple_sc, ↓Mini.isS_list_non, ↓Mini.isS_list_bl, ↓Mini.isS_list_int, ↓Mini.isS_list_str, ↓Mini.isS_list_tup, ↓Mini.isS_list_fl, ↓Mini.isS_list_sc, ↓Mini.isS_int_non, ↓Mini.isS_int_bl, ↓Mini.isS_int_int, ↓Mini.isS_int_str, ↓Mini.isS_int_tup, ↓Mini.isS_int_fl, ↓Mini.isS_int_sc, ↓Mini.isS_bool_non, ↓Mini.isS_bool_bl, ↓Mini.isS_bool_int, ↓Mini.isS_bool_str, ↓Mini.isS_bool_tup, ↓Mini.isS_bool_fl, ↓Mini.isS_bool_sc, ↓Mini.isS_str_non, ↓Mini.isS_str_bl, ↓Mini.isS_str_int, ↓Mini.isS_str_str, ↓Mini.isS_str_tup, ↓Mini.isS_str_fl, ↓Mini.isS_str_sc, ↓Mini.isS_list_ref, ↓Mini.isS_tuple_ref, ↓Mini.mChain_at, ↓Mini.mSl_at, ↓Mini.pNo_at, ↓Mini.pAt_at, ↓Mini.sl_tup, ↓Mini.sl_fl, ↓Mini.sl_sc, ↓Mini.slC_fl, ↓Mini.slC_sc, ↓Mini.sl_ref, ↓Mini.slC_ref, ↓Mini.mNext_at, ↓Mini.mSeq_at, ↓Mini.mDrop_at, ↓Mini.mRet_at, ↓Mini.mRetN_at, ↓Mini.mIf_at, ↓Mini.mBrk_at, ↓Mini.mCnt_at, ↓Mini.mAsg_at, ↓Mini.mFor_at, ↓Mini.mWhile_at, ↓Mini.mPar_at, ↓Mini.parS_at, ↓Mini.mPar3_at, ↓Mini.parS3_at, ↓Mini.mAug_at, ↓Mini.gsNil_at, ↓Mini.gsCons_at, ↓Mini.gT2_at, ↓Mini.gT3_at, ↓Mini.gL2_at, ↓Mini.gL3_at, ↓Mini.setI_at, ↓Mini.gIx_at, ↓Mini.mLc_at, ↓Mini.mLcC_at, ↓Mini.mLc2_at, ↓Mini.mLc2C_at, ↓Mini.iSeq_at, ↓Mini.iEnum_at, ↓Mini.iZip_at, ↓Mini.iRng1_at, ↓Mini.iRng2_at, ↓Mini.iTup_at, ↓Mini.tpS_at, ↓Mini.itS_tup, ↓Mini.itS_fl, ↓Mini.itS_sc, ↓Mini.itS_ref, ↓Mini.eS_tup, ↓Mini.eS_fl, ↓Mini.eS_sc, ↓Mini.eS_ref, ↓Mini.zS_tup, ↓Mini.zS_fl, ↓Mini.rS1_at, ↓Mini.rS2_at, ↓Mini.rg1_at, ↓Mini.rg2_at, ↓Mini.mLstRg_at, ↓Mini.mLstRgC_at, ↓Mini.mTupRg_at, ↓Mini.mRaise_at, ↓Mini.xS_at, ↓Mini.mTry_at, ↓Mini.o2_sub, ↓Mini.o2_mod, ↓Mini.o2_fdiv, ↓Mini.o2_pow, ↓Mini.o2_lt, ↓Mini.o2_le, ↓Mini.o2_gt, ↓Mini.o2_ge, ↓Mini.o2_eqi, ↓Mini.o2_nei, ↓Mini.o2_eqs, ↓Mini.o2_nes, ↓Mini.o2_addi, ↓Mini.o2_adds, ↓Mini.o2_addt, ↓Mini.o2_addl, ↓Mini.o2_addrl, ↓Mini.o2_addlr, ↓Mini.o2_addrr, ↓Mini.o2_catCrl, ↓Mini.o2_catCll, ↓Mini.o2_muli, ↓Mini.o2_mult, ↓Mini.o2_mull, ↓Mini.o2_mullC, ↓Mini.o1_neg, ↓Mini.o1_not, ↓Mini.o2_is, ↓Mini.o2_isnot, ↓Mini.o2_isb, ↓Mini.o2_isnotb, ↓Mini.o2_ixt, ↓Mini.o2_ixl, ↓Mini.o2_ixs, ↓Mini.o2_ixr, ↓Mini.o1_revt, ↓Mini.o1_revl, ↓Mini.o1_revr, ↓Mini.oN_lent, ↓Mini.oN_lenl, ↓Mini.oN_lens, ↓Mini.oN_lenr, ↓Mini.oN_listt, ↓Mini.oN_listl, ↓Mini.oN_lists, ↓Mini.oN_listr, ↓Mini.oN_listCt, ↓Mini.oN_listCl, ↓Mini.oN_listCs, ↓Mini.oN_listCr, ↓Mini.oN_tuplet, ↓Mini.oN_tuplel, ↓Mini.oN_tuples, ↓Mini.oN_tupler, ↓Mini.oN_inti, ↓Mini.oN_intb, ↓Mini.oN_boolb, ↓Mini.oN_min2, ↓Mini.oN_max2, ↓Mini.oN_all, ↓Mini.oN_any, ↓Mini.oN_sum, ↓Mini.oN_sum2l, ↓Mini.oN_sum2t, ↓Mini.om_append, ↓Mini.om_pop, ↓Mini.om_insert, ↓Mini.om_extl, ↓Mini.om_extr, ↓Mini.mWp_at, ↓Mini.itm_at, ↓Mini.mWb_at, ↓Mini.mForW_at, ↓Mini.mFz_at, beq_self_eq_true, List.map_cons, List.map_nil, List.length_cons, List.length_nil, List.replicate, List.cons_append, List.nil_append, List.getElem?_cons_zero, List.getElem?_cons_succ, List.set_cons_zero, List.set_cons_succ, Bool.not_false, Bool.not_true, Bool.not_not, if_false, if_true, reduceIte, Bool.false_eq_true, true_and, and_true, Nat.sub_self, Nat.reduceSub, Nat.reduceAdd, List.append_nil, List.length_map, Nat.add_zero, Nat.zero_add, Mini.getK, Mini.setK, Mini.getK1, Mini.getK2, Mini.setK1, Mini.setK2, Mini.atI0, Mini.atI1, Mini.atI2, Mini.ixN30, Mini.ixN31, Mini.ixN32, Mini.enumL_map, decide_true, decide_false, Mini.isN_non, Mini.isN_tup, Mini.isN_fl, Mini.isN_ref, Mini.isN_int, Mini.isN_bl, Mini.isN_str, Mini.wipeM, Mini.startM])
local macro_rules | `(tactic| walk_at "mx0") => `(tactic| try simp only [↓Mini.hold_val, ↓Mini.withC_l, ↓Mini.withV_s, ↓Mini.withN_s, ↓Mini.bV_b, ↓Mini.iV_i, ↓Mini.mC_at, ↓Mini.mInt_at, ↓Mini.mBl_at, ↓Mini.mNon_at, ↓Mini.mStr_at, ↓Mini.mVar0, ↓Mini.mVar1, ↓Mini.mVar2, ↓Mini.mVar3, ↓Mini.mVar4, ↓Mini.mVar5, ↓Mini.mVar6, ↓Mini.mVar7, ↓Mini.mVar8, ↓Mini.mVar9, ↓Mini.mVar10, ↓Mini.mVar11, ↓Mini.mVar12, ↓Mini.mVar13, ↓Mini.mVar14, ↓Mini.mVar15, ↓Mini.mVar16, ↓Mini.mVar17, ↓Mini.mVar18, ↓Mini.mVar19, ↓Mini.mVar20, ↓Mini.mVar21, ↓Mini.mVar22, ↓Mini.mVar23, ↓Mini.gN0, ↓Mini.gN1, ↓Mini.gN2, ↓Mini.gN3, ↓Mini.gN4, ↓Mini.gN5, ↓Mini.gN6, ↓Mini.gN7, ↓Mini.gN8, ↓Mini.gN9, ↓Mini.gN10, ↓Mini.gN11, ↓Mini.gN12, ↓Mini.gN13, ↓Mini.gN14, ↓Mini.gN15, ↓Mini.gN16, ↓Mini.gN17, ↓Mini.gN18, ↓Mini.gN19, ↓Mini.gN20, ↓Mini.gN21, ↓Mini.gN22, ↓Mini.gN23, ↓Mini.mOp2_at, ↓Mini.mOp1_at, ↓Mini.mNot_at, ↓Mini.tV_at, ↓Mini.tNo_at, ↓Mini.ifB_t, ↓Mini.ifB_f, ↓Mini.ifB_n, ↓Mini.tAn_at, ↓Mini.tOr_at, ↓Mini.tAll_at, ↓Mini.mAnd_at, ↓Mini.mOr_at, ↓Mini.mIfE_at, ↓Mini.aNil_at, ↓Mini.aCons_at, ↓Mini.mTup_at, ↓Mini.mLst_at, ↓Mini.mLstC_at, ↓Mini.mB_at, ↓Mini.mCall_at, ↓Mini.isL_fl, ↓Mini.isL_ref, ↓Mini.mMt_at, ↓Mini.mMt0_at, ↓Mini.mIsi_at, ↓Mini.mIsX_at, ↓Mini.mIsVE_at, ↓Mini.o1_isX, ↓Mini.o1_isVE, ↓Mini.isS_tuple_non, ↓Mini.isS_tuple_bl, ↓Mini.isS_tuple_int, ↓Mini.isS_tuple_str, ↓Mini.isS_tuple_tup, ↓Mini.isS_tuple_fl, ↓Mini.isS_tuple_sc, ↓Mini.isS_list_non, ↓Mini.isS_list_bl, ↓Mini.isS_list_int, ↓Mini.isS_list_str, ↓Mini.isS_list_tup, ↓Mini.isS_list_fl, ↓Mini.isS_list_sc, ↓Mini.isS_int_non, ↓Mini.isS_int_bl, ↓Mini.isS_int_int, ↓Mini.isS_int_str, ↓Mini.isS_int_tup, ↓Mini.isS_int_fl, ↓Mini.isS_int_sc, ↓Mini.isS_bool_non, ↓Mini.isS_bool_bl, ↓Mini.isS_bool_int, ↓Mini.isS_bool_str, ↓Mini.isS_bool_tup, ↓Mini.isS_bool_fl, ↓Mini.isS_bool_sc, ↓Mini.isS_str_non, ↓Mini.isS_str_bl, ↓Mini.isS_str_int, ↓Mini.isS_str_str, ↓Mini.isS_str_tup, ↓Mini.isS_str_fl, ↓Mini.isS_str_sc, ↓Mini.isS_list_ref, ↓Mini.isS_tuple_ref, ↓Mini.mChain_at, ↓Mini.mSl_at, ↓Mini.pNo_at, ↓Mini.pAt_at, ↓Mini.sl_tup, ↓Mini.sl_fl, ↓Mini.sl_sc, ↓Mini.slC_fl, ↓Mini.slC_sc, ↓Mini.sl_ref, ↓Mini.slC_ref, ↓Mini.mNext_at, ↓Mini.mSeq_at, ↓Mini.mDrop_at, ↓Mini.mRet_at, ↓Mini.mRetN_at, ↓Mini.mIf_at, ↓Mini.mBrk_at, ↓Mini.mCnt_at, ↓Mini.mAsg_at, ↓Mini.mFor_at, ↓Mini.mWhile_at, ↓Mini.mPar_at, ↓Mini.parS_at, ↓Mini.mPar3_at, ↓Mini.parS3_at, ↓Mini.mAug_at, ↓Mini.gsNil_at, ↓Mini.gsCons_at, ↓Mini.gT2_at, ↓Mini.gT3_at, ↓Mini.gL2_at, ↓Mini.gL3_at, ↓Mini.setI_at, ↓Mini.gIx_at, ↓Mini.mLc_at, ↓Mini.mLcC_at, ↓Mini.mLc2_at, ↓Mini.mLc2C_at, ↓Mini.iSeq_at, ↓Mini.iEnum_at, ↓Mini.iZip_at, ↓Mini.iRng1_at, ↓Mini.iRng2_at, ↓Mini.iTup_at, ↓Mini.tpS_at, ↓Mini.itS_tup, ↓Mini.itS_fl, ↓Mini.itS_sc, ↓Mini.itS_ref, ↓Mini.eS_tup, ↓Mini.eS_fl, ↓Mini.eS_sc, ↓Mini.eS_ref, ↓Mini.zS_tup, ↓Mini.zS_fl, ↓Mini.rS1_at, ↓Mini.rS2_at, ↓Mini.rg1_at, ↓Mini.rg2_at, ↓Mini.mLstRg_at, ↓Mini.mLstRgC_at, ↓Mini.mTupRg_at, ↓Mini.mRaise_at, ↓Mini.xS_at, ↓Mini.mTry_at, ↓Mini.o2_sub, ↓Mini.o2_mod, ↓Mini.o2_fdiv, ↓Mini.o2_pow, ↓Mini.o2_lt, ↓Mini.o2_le, ↓Mini.o2_gt, ↓Mini.o2_ge, ↓Mini.o2_eqi, ↓Mini.o2_nei, ↓Mini.o2_eqs, ↓Mini.o2_nes, ↓Mini.o2_addi, ↓Mini.o2_adds, ↓Mini.o2_addt, ↓Mini.o2_addl, ↓Mini.o2_addrl, ↓Mini.o2_addlr, ↓Mini.o2_addrr, ↓Mini.o2_catCrl, ↓Mini.o2_catCll, ↓Mini.o2_muli, ↓Mini.o2_mult, ↓Mini.o2_mull, ↓Mini.o2_mullC, ↓Mini.o1_neg, ↓Mini.o1_not, ↓Mini.o2_is, ↓Mini.o2_isnot, ↓Mini.o2_isb, ↓Mini.o2_isnotb, ↓Mini.o2_ixt, ↓Mini.o2_ixl, ↓Mini.o2_ixs, ↓Mini.o2_ixr, ↓Mini.o1_revt, ↓Mini.o1_revl, ↓Mini.o1_revr, ↓Mini.oN_lent, ↓Mini.oN_lenl, ↓Mini.oN_lens, ↓Mini.oN_lenr, ↓Mini.oN_listt, ↓Mini.oN_listl, ↓Mini.oN_lists, ↓Mini.oN_listr, ↓Mini.oN_listCt, ↓Mini.oN_listCl, ↓Mini.oN_listCs, ↓Mini.oN_listCr, ↓Mini.oN_tuplet, ↓Mini.oN_tuplel, ↓Mini.oN_tuples, ↓Mini.oN_tupler, ↓Mini.oN_inti, ↓Mini.oN_intb, ↓Mini.oN_boolb, ↓Mini.oN_min2, ↓Mini.oN_max2, ↓Mini.oN_all, ↓Mini.oN_any, ↓Mini.oN_sum, ↓Mini.oN_sum2l, ↓Mini.oN_sum2t, ↓Mini.om_append, ↓Mini.om_pop, ↓Mini.om_insert, ↓Mini.om_extl, ↓Mini.om_extr, ↓Mini.mWp_at, ↓Mini.itm_at, ↓Mini.mWb_at, ↓Mini.mForW_at, ↓Mini.mFz_at, beq_self_eq_true, List.map_cons, List.map_nil, List.length_cons, List.length_nil, List.replicate, List.cons_append, List.nil_append, List.getElem?_cons_zero, List.getElem?_cons_succ, List.set_cons_zero, List.set_cons_succ, Bool.not_false, Bool.not_true, Bool.not_not, if_false, if_true, reduceIte, Bool.false_eq_true, true_and, and_true, Nat.sub_self, Nat.reduceSub, Nat.reduceAdd, List.append_nil, List.length_map, Nat.add_zero, Nat.zero_add, Mini.getK, Mini.setK, Mini.getK1, Mini.getK2, Mini.setK1, Mini.setK2, Mini.atI0, Mini.atI1, Mini.atI2, Mini.ixN30, Mini.ixN31, Mini.ixN32, Mini.enumL_map, decide_true, decide_false, Mini.isN_non, Mini.isN_tup, Mini.isN_fl, Mini.isN_ref, Mini.isN_int, Mini.isN_bl, Mini.isN_str, Mini.wipeM, Mini.startM])
local macro_rules | `(tactic| walk_at "sd") => `(tactic| repeat (with_reducible refine And.intro ?sdL ?_; case sdL => first
      | exact Mini.sd_le (by first | decide | omega)
      | exact Mini.sd_lt (by first | decide | omega)
      | exact ⟨by omega, by omega⟩
      | exact ⟨⟨by omega, by omega⟩, ⟨by omega, by omega⟩⟩
      | exact ⟨by omega, by omega, Mini.sd_le (by first | decide | omega)⟩
      | exact ⟨by omega, by omega, by omega⟩
      | exact Mini.okT_i
      | fail))
local macro_rules | `(tactic| walk_at "kbi") => `(tactic| (walk_at "sd"; first | with_reducible refine Mini.kb_i ?_ | (walk_at "mx"; walk_at "sd"; refine Mini.kb_i ?_)))
local macro_rules | `(tactic| walk_at "nx") => `(tactic| (walk_at "kbi"; walk_at "mx"))
local macro_rules | `(tactic| walk_at "nx0") => `(tactic| (walk_at "kbi"; walk_at "mx0"))
namespace Mini
open PySem PySem.Spec PyProof.Rows L2
def cN (i : Nat) : Str := if i = 100 then "Gaps" else if i = 101 then "Assignment" else if i = 102 then "Walk" else if i = 103 then "Workspace" else if i = 104 then "Mill" else "Runner"
def fldC (i : Nat) : List Str := if i = 100 then ["base", "members", "links", "shortest"] else if i = 101 then ["costs", "many", "lifts", "drops", "rows"] else if i = 102 then ["rows", "places", "shown", "done"]
  else if i = 103 then ["sizes", "waits", "done", "saved"] else if i = 104 then ["sizes", "waits", "done", "saved"] else if i = 105 then ["base", "rows", "begun", "due", "shown", "past", "many"] else []
def clsC (K : PySem.W.Frag) (xs : List Str) (i : Nat) : Addr := if i < 100 then xAt K xs i else He.ga K (cN i)
theorem ln100 : (fldC 100).length < 1000 := by decide +kernel
theorem nd100 : (fldC 100).Nodup := by decide +kernel
theorem nfC {c : Nat} {m : Str} (h : (fldC c).contains m = false) : m ∉ fldC c := fun z => by
  rw [List.contains_iff_mem.mpr z] at h
  cases h
def newF (c : Nat) (sem : Sem) : Sem := fun vs h Q E => sem (.ref h.length :: vs) (h ++ [.ins c []]) (fun r h2 => r = .non ∧ mdF h.length Q (.ref h.length) h2) E
section
variable {Y Y0 : Lay} {W : WX} {X : Cx} {k c i : Nat} {f : Addr} {fd : FuncData} {ps : List Str} {sem : Sem} {n m x : Str} {a : MA} {e : Expr} {es : List Expr} {p pos : Pos}
theorem sn_newF (M : Mk X.K (Y.cls c) f) (F : FnG Y0 X.prog X.w X.K X.mg X.base k f fd ps sem) (hr : RoomG (k + 1) X.A) (tk : Takes X W) (hg : Gl X x) (hm : X.mg x = some (.ref (Y.cls c))) (hb : Binds X.K fd ps []) (ha : SA Y W X a (e :: es)) (hy : Y = Y0.re Y.hid := by rfl)
    (hdb : (x == ("__debug__" : Str)) = false := by decide) (he : starEach (e :: es) X.env = (false, eval e X.env) :: starEach es X.env := by rfl) (hpl : (backTo pos (starEach es X.env)).any (·.1) = false := by rfl) :
    SE Y W X (mCall (newF c sem) a) (.Call (.Name x p) (e :: es) [] pos) := by
  refine ⟨fun pins s σ H Q I h => ?_⟩
  obtain ⟨ι, sm, hm', Qm, Em, hR, rs, q, tq, tx⟩ := h
  refine wpAny_Call_Name_kw (ld_glob I hg hm ?_ hdb)
  refine PySem.W.callWith_K (h₀ := X.base) I.ok.mod.kin M.kp (thn (ha.run pos pins s σ H (fun vs H1 => ∃ ι1 h1 ws, HR Y ι1 h1 H1 ∧ Ext hm'.length h1.length ι ι1 H H1 ∧ RepAll Y ι1 h1.length H1 ws vs ∧ newF c sem ws h1 Qm Em) I
    ⟨ι, sm, hm', _, Em, hR, rs, q, fun vs h1 ι1 H1 xs hr1 e1 r1 q1 => ⟨ι1, h1, vs, hr1, e1, r1, q1⟩, tx⟩) fun us s1 ⟨vs, H1, I1, r, ι1, h1, ws, hr1, e1, r1, q1⟩ => ⟨I1.kIn, ?_⟩) he hpl
  have t1 := tq.mono e1 hR.live hr1.live
  have t2 : TrQ Y ι1 h1.length H1 (mdF h1.length Qm) Q := fun v h' ι' H' x hr' ex rv q => by
    obtain ⟨ι2, h2, v2, a1, a2, a3, a4⟩ := mdF_ok Y ι1 ι' h1.length H1 H' h' Qm v x hr' ex rv q
    exact t1 v2 h2 ι2 H' x a1 a2 a3 a4
  exact run_makeM M hy F hr tk hb I1 r hr1 r1 q1 t2 (tx.mono e1 hR.live hr1.live)
end
def fldS (c i : Nat) (v : MV) (h : MHp) [Q : Hold (MQ)] : Prop := ∃ xs y, insOf h v = some (c, xs) ∧ xs[i]? = some y ∧ Q.val y h
theorem mFld_at {c i : Nat} {a : ME} {s : MSt} {h : MHp} {Q E : MQ} : mFld c i a s h Q E = a s h (fun v h1 => @fldS c i v h1 ⟨Q⟩) E := rfl
theorem fldS_fi {c i : Nat} {xs : List MV} {h : MHp} {Q : MQ} : @fldS c i (.fi c xs) h ⟨Q⟩ = @withV xs[i]? ⟨fun y => Q y h⟩ := by
  refine propext ⟨fun ⟨ys, y, e1, e2, q⟩ => ?_, fun q => ?_⟩
  · cases e1
    rw [e2]
    exact q
  · cases e : xs[i]? with
    | none => rw [e] at q; exact q.elim
    | some y => rw [e] at q; exact ⟨xs, y, rfl, e, q⟩
theorem fldS_ref {c i n : Nat} {xs : List MV} {h : MHp} {Q : MQ} (e : h[n]? = some (.ins c xs)) {y : MV} (ey : xs[i]? = some y) (k : Q y h) : @fldS c i (.ref n) h ⟨Q⟩ := ⟨xs, y, by unfold insOf; simp only [e], ey, k⟩
def setFS (c i : Nat) (v x : MV) (h : MHp) [N : Hold (MHp → Prop)] : Prop := ∃ n xs, x = .ref n ∧ h[n]? = some (.ins c xs) ∧ i ≤ xs.length ∧ N.val (h.set n (.ins c (putAt xs i v)))
theorem mSetF_at {c i : Nat} {o v : ME} {s : MSt} {h : MHp} {N : MSt → MHp → Prop} {R : MQ} {B C : MSt → MHp → Prop} {X : MV → MSt → MHp → Prop} : mSetF c i o v s h ⟨N, R, B, C, X⟩ = v s h (fun y h1 => o s h1 (fun x h2 => @setFS c i y x h2 ⟨fun h3 => N s h3⟩) (fun e h' => X e s h')) (fun e h' => X e s h') := rfl
theorem setFS_i {c i n : Nat} {v : MV} {xs : List MV} {h : MHp} {N : MHp → Prop} (e : h[n]? = some (.ins c xs)) (hi : i ≤ xs.length) (k : N (h.set n (.ins c (putAt xs i v)))) : @setFS c i v (.ref n) h ⟨N⟩ := ⟨n, xs, rfl, e, hi, k⟩
def isIns (c : Nat) (v : MV) (h : MHp) : Prop := ∃ xs, insOf h v = some (c, xs)
theorem isIns_fi {c : Nat} {xs : List MV} {h : MHp} : isIns c (.fi c xs) h = True := eq_true ⟨xs, rfl⟩
theorem isIns_ref {c n : Nat} {xs : List MV} {h : MHp} (e : h[n]? = some (.ins c xs)) : isIns c (.ref n) h := ⟨xs, by unfold insOf; simp only [e]⟩
theorem mMeth_at {c : Nat} {sem : Sem} {o : ME} {a : MA} {s : MSt} {h : MHp} {Q E : MQ} : mMeth c sem o a s h Q E = o s h (fun v h1 => isIns c v h1 ∧ a s h1 (fun vs h2 => @call sem (v :: vs) h2 ⟨Q⟩ ⟨E⟩) E) E := rfl
end Mini
namespace Lw
open PySem PySem.Spec PyProof.Rows L2 Mini

def l__law_links_1 : MS :=
    (mWp (mSeq (mAsg (mOp2 eqM (mVar 4) (mOp2 subM (mVar 3) (mInt 1))) (gN 5))
    (mDrop (mMt appendM (mVar 1) (aCons (mTup (aCons (mTup (aCons (mVar 2) (aCons (mVar 4) aNil))) (aCons (mTup (aCons (mVar 2) (aCons (mIfE (tV (mVar 5)) (mInt 0) (mOp2 plusM (mVar 4) (mInt 1))) aNil))) (aCons (mB intM (aCons (mVar 5) aNil)) aNil)))) aNil)))) [0, 4, 5])
def l__law_links_2 : MS :=
    (mWp (mForW (iRng1 (aCons (mVar 3) aNil)) (gN 4) l__law_links_1 [0, 4, 5]) [0, 2, 3, 4, 5])
def b__law_links : MS :=
    (mSeq (mAsg (mB listMC (aCons (mOp2 ixM (mVar 0) (mInt 1)) aNil)) (gN 1))
    (mSeq (mForW (iEnum (aCons (mOp2 ixM (mVar 0) (mInt 0)) aNil)) (gT (gsCons (gN 2) (gsCons (gN 3) gsNil)) 2) l__law_links_2 [0, 2, 3, 4, 5])
    (mRet (mB sortM (aCons (mVar 1) aNil)))))
def f__law_links : Sem := mFn mdF mdD 1 6 b__law_links
def l__law_does_stick_1 : MS :=
    (mWp (mSeq (mAsg (mMt0 popM (mVar 4)) (gN 7))
    (mIf (tV (mOp2 notInSeqM (mVar 7) (mVar 5))) (mSeq (mDrop (mMt appendM (mVar 5) (aCons (mVar 7) aNil)))
    (mDrop (mMt extendM (mVar 4) (aCons (mLc (iSeq (mVar 6)) (gN 8) (tAn (tV (mOp2 eqM (mOp2 ixM (mVar 8) (mInt 0)) (mVar 7))) (tV (mOp2 eqM (mOp2 ixM (mVar 8) (mInt 2)) (mInt 0)))) (mOp2 ixM (mVar 8) (mInt 1)) [8]) aNil)))) mNext)) [0, 1, 2, 7])
def b__law_does_stick : MS :=
    (mSeq (mPar3 4 5 6 (aCons (mLstC (aCons (mVar 2) aNil)) (aCons (mLstC aNil) (aCons (mCall f__law_links (aCons (mTup (aCons (mVar 0) (aCons (mB tupleM (aCons (mVar 1) aNil)) aNil))) aNil)) aNil))))
    (mSeq (mWb [0, 1, 2, 7] (mWhile (tV (mOp2 neM (mVar 4) (mLst aNil))) l__law_does_stick_1))
    (mRet (mOp2 inSeqM (mVar 3) (mVar 5)))))
def f__law_does_stick : Sem := mFn mdF mdD 4 9 b__law_does_stick
def l__law_endless_1 : MS :=
    (mWp (mSeq (mPar 7 8 (aCons (mCall f__law_one (aCons (mVar 0) (aCons (mVar 5) aNil))) (aCons (mCall f__law_one (aCons (mVar 0) (aCons (mVar 5) aNil))) aNil)))
    (mSeq (mAsg (mCall f__law_one (aCons (mVar 0) (aCons (mLst (aCons (mInt 0) (aCons (mInt 0) (aCons (mInt 0) (aCons (mInt 1) (aCons (mInt 1) (aCons (mInt 2) (aCons (mInt 3) aNil)))))))) aNil))) (gN 6))
    (mIf (tV (mOp2 neM (mOp2 ixM (mVar 7) (mInt 0)) (mOp2 ixM (mVar 8) (mInt 0)))) (mSeq (mIf (tAn (tV (mOp2 eqM (mVar 6) (mInt 0))) (tV (mCall f__law_does_stick (aCons (mVar 2) (aCons (mVar 4) (aCons (mVar 8) (aCons (mVar 7) aNil))))))) (mAsg (mOp2 plusM (mInt 1) (mCall f__law_take (aCons (mVar 0) (aCons (mInt 3) aNil)))) (gN 6)) mNext)
    (mAsg (mOp2 plusM (mVar 4) (mOp2 mulM2 (mLst (aCons (mTup (aCons (mVar 7) (aCons (mVar 8) (aCons (mVar 6) aNil)))) aNil)) (mB intM (aCons (mOp2 notInSeqM (mTup (aCons (mVar 7) (aCons (mVar 8) (aCons (mVar 6) aNil)))) (mVar 4)) aNil)))) (gN 4))) mNext))) [1, 3, 6, 7, 8])
def b__law_endless : MS :=
    (mSeq (mAsg (mB tupleM (aCons (mLc (iRng1 (aCons (mCall f__law_one (aCons (mVar 0) (aCons (mLst (aCons (mInt 1) (aCons (mInt 2) (aCons (mInt 2) (aCons (mInt 3) (aCons (mInt 3) (aCons (mInt 4) aNil))))))) aNil))) aNil)) (gN 9) tAll (mCall f__law_one (aCons (mVar 0) (aCons (mLst (aCons (mInt 1) (aCons (mInt 1) (aCons (mInt 2) (aCons (mInt 2) (aCons (mInt 3) (aCons (mInt 4) aNil))))))) aNil))) [9]) aNil)) (gN 2))
    (mSeq (mPar 4 5 (aCons (mLst aNil) (aCons (mCall f__law_jobs (aCons (mVar 2) aNil)) aNil)))
    (mSeq (mForW (iRng1 (aCons (mCall f__law_take (aCons (mVar 0) (aCons (mOp2 plusM (mVar 1) (mInt 1)) aNil))) aNil)) (gN 3) l__law_endless_1 [1, 3, 6, 7, 8])
    (mRet (mTup (aCons (mVar 2) (aCons (mB tupleM (aCons (mB sortM (aCons (mVar 4) aNil)) aNil)) aNil)))))))
def f__law_endless : Sem := mFn mdF mdD 2 10 b__law_endless
def l__law_gaps_1 : MS :=
    (mWp (mAsg (mInt 0) (gIxD (mVar 4) (mTup (aCons (mVar 1) (aCons (mVar 1) aNil))))) [1, 2, 5, 6, 7, 8])
def l__law_gaps_2 : MS :=
    (mWp (mAsg (mB min2M (aCons (mVar 7) (aCons (mDm getM2 (mVar 4) (aCons (mTup (aCons (mVar 5) (aCons (mVar 6) aNil))) (aCons (mVar 7) aNil))) aNil))) (gIxD (mVar 4) (mTup (aCons (mVar 5) (aCons (mVar 6) aNil))))) [0, 1, 2, 5, 6, 7, 8])
def l__law_gaps_3 : MS :=
    (mWp (mIf (tAn (tV (mOp2 inD (mTup (aCons (mVar 5) (aCons (mVar 2) aNil))) (mVar 4))) (tV (mOp2 inD (mTup (aCons (mVar 2) (aCons (mVar 6) aNil))) (mVar 4)))) (mSeq (mAsg (mOp2 plusM (mOp2 ixD (mVar 4) (mTup (aCons (mVar 5) (aCons (mVar 2) aNil)))) (mOp2 ixD (mVar 4) (mTup (aCons (mVar 2) (aCons (mVar 6) aNil))))) (gN 8))
    (mAsg (mB min2M (aCons (mVar 8) (aCons (mDm getM2 (mVar 4) (aCons (mTup (aCons (mVar 5) (aCons (mVar 6) aNil))) (aCons (mVar 8) aNil))) aNil))) (gIxD (mVar 4) (mTup (aCons (mVar 5) (aCons (mVar 6) aNil)))))) mNext) [0, 1, 6, 7, 8])
def l__law_gaps_4 : MS :=
    (mWp (mForW (iSeq (mVar 3)) (gN 6) l__law_gaps_3 [0, 1, 6, 7, 8]) [0, 1, 5, 6, 7, 8])
def l__law_gaps_5 : MS :=
    (mWp (mForW (iSeq (mVar 3)) (gN 5) l__law_gaps_4 [0, 1, 5, 6, 7, 8]) [0, 1, 2, 5, 6, 7, 8])
def b__law_gaps : MS :=
    (mSeq (mPar 3 4 (aCons (mCall f__law_jobs (aCons (mOp2 ixM (mVar 0) (mInt 0)) aNil)) (aCons mD0 aNil)))
    (mSeq (mForW (iSeq (mVar 3)) (gN 1) l__law_gaps_1 [1, 2, 5, 6, 7, 8])
    (mSeq (mForW (iSeq (mCall f__law_links (aCons (mVar 0) aNil))) (gT (gsCons (gN 5) (gsCons (gN 6) (gsCons (gN 7) gsNil))) 3) l__law_gaps_2 [0, 1, 2, 5, 6, 7, 8])
    (mSeq (mForW (iSeq (mVar 3)) (gN 2) l__law_gaps_5 [0, 1, 2, 5, 6, 7, 8])
    (mRet (mVar 4))))))
def f__law_gaps : Sem := mFn mdF mdD 1 9 b__law_gaps
end Lw
namespace Lw
open PySem PySem.Spec PyProof.Rows L2 Mini

end Lw
namespace Lw
open PySem PySem.Spec PyProof.Rows L2 Mini

end Lw
namespace Lw
open PySem PySem.Spec PyProof.Rows L2 Mini

end Lw
namespace Lw
open PySem PySem.Spec PyProof.Rows L2 Mini

def b_Gaps_find : MS :=
    (mRet (mDm getM1 (mFld 100 3 (mVar 0)) (aCons (mTup (aCons (mVar 1) (aCons (mVar 2) aNil))) aNil)))
def f_Gaps_find : Sem := mFn mdF mdD 3 3 b_Gaps_find
def b_Gaps_shorten : MS :=
    (mIf (tV (mOp2 gtM (mDm getM2 (mFld 100 3 (mVar 0)) (aCons (mTup (aCons (mVar 1) (aCons (mVar 2) aNil))) (aCons (mOp2 plusM (mVar 3) (mInt 1)) aNil))) (mVar 3))) (mAsg (mVar 3) (gIxD (mFld 100 3 (mVar 0)) (mTup (aCons (mVar 1) (aCons (mVar 2) aNil))))) mNext)
def f_Gaps_shorten : Sem := mFn mdK mdK 4 4 b_Gaps_shorten
def l_Gaps___init___1 : MS :=
    (mWp (mDrop (mMeth 100 f_Gaps_shorten (mVar 0) (aCons (mVar 3) (aCons (mVar 4) (aCons (mVar 5) aNil))))) [1, 2, 3, 4, 5])
def l_Gaps___init___2 : MS :=
    (mWp (mIf (tAn (tV (mOp2 inD (mTup (aCons (mVar 3) (aCons (mVar 2) aNil))) (mFld 100 3 (mVar 0)))) (tV (mOp2 inD (mTup (aCons (mVar 2) (aCons (mVar 4) aNil))) (mFld 100 3 (mVar 0))))) (mDrop (mMeth 100 f_Gaps_shorten (mVar 0) (aCons (mVar 3) (aCons (mVar 4) (aCons (mOp2 plusM (mOp2 ixD (mFld 100 3 (mVar 0)) (mTup (aCons (mVar 3) (aCons (mVar 2) aNil)))) (mOp2 ixD (mFld 100 3 (mVar 0)) (mTup (aCons (mVar 2) (aCons (mVar 4) aNil))))) aNil))))) mNext) [1, 4, 5])
def l_Gaps___init___3 : MS :=
    (mWp (mForW (iSeq (mFld 100 1 (mVar 0))) (gN 4) l_Gaps___init___2 [1, 4, 5]) [1, 3, 4, 5])
def l_Gaps___init___4 : MS :=
    (mWp (mForW (iSeq (mFld 100 1 (mVar 0))) (gN 3) l_Gaps___init___3 [1, 3, 4, 5]) [1, 2, 3, 4, 5])
def b_Gaps___init__ : MS :=
    (mSeq (mSetF 100 0 (mVar 0) (mVar 1))
    (mSeq (mSetF 100 1 (mVar 0) (mCall f_list_jobs (aCons (mVar 1) aNil)))
    (mSeq (mSetF 100 2 (mVar 0) (mCall f_find_links (aCons (mVar 1) aNil)))
    (mSeq (mSetF 100 3 (mVar 0) (mDc (iSeq (mFld 100 1 (mVar 0))) (gN 6) tAll (mTup (aCons (mVar 6) (aCons (mVar 6) aNil))) (mInt 0) [6]))
    (mSeq (mForW (iSeq (mFld 100 2 (mVar 0))) (gT (gsCons (gN 3) (gsCons (gN 4) (gsCons (gN 5) gsNil))) 3) l_Gaps___init___1 [1, 2, 3, 4, 5])
    (mForW (iSeq (mFld 100 1 (mVar 0))) (gN 2) l_Gaps___init___4 [1, 2, 3, 4, 5]))))))
def f_Gaps___init__ : Sem := mFn mdK mdK 2 7 b_Gaps___init__
end Lw
namespace Mini
open PySem PySem.Spec PyProof.Rows L2
section
variable {prog : Program} {w : World} {A : Around} {E : Value → Shared → Prop} {s : Shared} {l : Addr}
end
section
variable {Y : Lay} {X : Cx}
end
end Mini
namespace Mini
open PySem PySem.Spec PyProof.Rows L2
section
variable {prog : Program} {w : World} {A : Around} {E : Value → Shared → Prop} {s : Shared} {l : Addr}
end
section
variable {Y : Lay} {X : Cx}
end
end Mini
namespace Lw
open PySem PySem.Spec PyProof.Rows L2 Mini

def l__law_short_rows_1 : MS :=
    (mWp (mIf (tV (mOp2 inD (mTup (aCons (mVar 8) (aCons (mVar 10) aNil))) (mVar 1))) (mSeq (mAsg (mOp2 plusM (mOp2 plusM (mVar 6) (mVar 9)) (mOp2 ixD (mVar 1) (mTup (aCons (mVar 8) (aCons (mVar 10) aNil))))) (gN 11))
    (mAsg (mB min2M (aCons (mVar 11) (aCons (mDm getM2 (mVar 2) (aCons (mTup (aCons (mVar 4) (aCons (mVar 10) aNil))) (aCons (mVar 11) aNil))) aNil))) (gIxD (mVar 2) (mTup (aCons (mVar 4) (aCons (mVar 10) aNil)))))) mNext) [7, 10, 11])
def l__law_short_rows_2 : MS :=
    (mWp (mIf (tV (mOp2 eqM (mVar 7) (mVar 5))) (mForW (iSeq (mCall f__law_jobs (aCons (mOp2 ixM (mVar 0) (mInt 0)) aNil))) (gN 10) l__law_short_rows_1 [7, 10, 11]) mNext) [7, 8, 9, 10, 11])
def l__law_short_rows_3 : MS :=
    (mWp (mForW (iSeq (mVar 3)) (gT (gsCons (gN 7) (gsCons (gN 8) (gsCons (gN 9) gsNil))) 3) l__law_short_rows_2 [7, 8, 9, 10, 11]) [4, 5, 6, 7, 8, 9, 10, 11])
def b__law_short_rows : MS :=
    (mSeq (mPar 2 3 (aCons mD0 (aCons (mCall f__law_links (aCons (mVar 0) aNil)) aNil)))
    (mSeq (mForW (iSeq (mVar 3)) (gT (gsCons (gN 4) (gsCons (gN 5) (gsCons (gN 6) gsNil))) 3) l__law_short_rows_3 [4, 5, 6, 7, 8, 9, 10, 11])
    (mRet (mVar 2))))
def f__law_short_rows : Sem := mFn mdF mdD 2 12 b__law_short_rows
def l__law_thin_1 : MS :=
    (mWp (mAsg (mOp2 plusM (mVar 3) (mOp2 mulM2 (mLst (aCons (mVar 1) aNil)) (mB intM (aCons (mOp2 gtM (mDm getM2 (mVar 2) (aCons (mTup (aCons (mOp2 ixM (mVar 1) (mInt 0)) (aCons (mOp2 ixM (mVar 1) (mInt 1)) aNil))) (aCons (mOp2 plusM (mOp2 ixM (mVar 1) (mInt 2)) (mInt 1)) aNil))) (mOp2 ixM (mVar 1) (mInt 2))) aNil)))) (gN 3)) [1])
def b__law_thin : MS :=
    (mSeq (mPar 2 3 (aCons (mCall f__law_short_rows (aCons (mVar 0) (aCons (mCall f__law_gaps (aCons (mVar 0) aNil)) aNil))) (aCons (mLst aNil) aNil)))
    (mSeq (mForW (iSeq (mOp2 ixM (mVar 0) (mInt 1))) (gN 1) l__law_thin_1 [1])
    (mRet (mTup (aCons (mOp2 ixM (mVar 0) (mInt 0)) (aCons (mB tupleM (aCons (mVar 3) aNil)) aNil))))))
def f__law_thin : Sem := mFn mdF mdD 1 4 b__law_thin
def l_is_needed_in_1 : MS :=
    (mWp (mIf (tV (mOp2 eqM (mOp2 ixM (mVar 2) (mInt 0)) (mVar 3))) (mSeq (mAsg (mMeth 100 f_Gaps_find (mVar 0) (aCons (mOp2 ixM (mVar 2) (mInt 1)) (aCons (mVar 4) aNil))) (gN 6))
    (mSeq (mAsg (mIfE (tV (mOp2 eqM (mOp2 ixM (mVar 2) (mInt 1)) (mVar 4))) (mInt 1) (mVar 6)) (gN 7))
    (mIf (tAn (tV (mOp2 isNotM2 (mVar 7) mNon)) (tV (mOp2 leM (mOp2 plusM (mOp2 ixM (mVar 2) (mInt 2)) (mVar 7)) (mVar 5)))) (mRet (mBl false)) mNext))) mNext) [1, 2, 6, 7])
def b_is_needed_in : MS :=
    (mSeq (mAsg (mVar 1) (gT (gsCons (gN 3) (gsCons (gN 4) (gsCons (gN 5) gsNil))) 3))
    (mSeq (mForW (iSeq (mFld 100 2 (mVar 0))) (gN 2) l_is_needed_in_1 [1, 2, 6, 7])
    (mRet (mBl true))))
def f_is_needed_in : Sem := mFn mdF mdD 2 8 b_is_needed_in
def b_find_least_endless : MS :=
    (mSeq (mAsg (mCall (newF 100 f_Gaps___init__) (aCons (mVar 0) aNil)) (gN 1))
    (mRet (mTup (aCons (mOp2 ixM (mVar 0) (mInt 0)) (aCons (mB tupleM (aCons (mLc (iSeq (mOp2 ixM (mVar 0) (mInt 1))) (gN 2) (tV (mCall f_is_needed_in (aCons (mVar 1) (aCons (mVar 2) aNil)))) (mVar 2) [2]) aNil)) aNil)))))
def f_find_least_endless : Sem := mFn mdF mdD 1 3 b_find_least_endless
end Lw
namespace Lw
open PySem PySem.Spec PyProof.Rows L2 Mini

def l__law_with_needless_1 : MS :=
    (mWp (mSeq (mAsg (mOp2 plusM (mOp2 ixD (mVar 4) (mVar 2)) (mCall f__law_take (aCons (mVar 0) (aCons (mInt 2) aNil)))) (gN 5))
    (mIf (tAn (tV (mOp2 neM (mOp2 ixM (mOp2 ixM (mVar 2) (mInt 0)) (mInt 0)) (mOp2 ixM (mOp2 ixM (mVar 2) (mInt 1)) (mInt 0)))) (tAn (tV (mOp2 ltM (mVar 5) (mInt 4))) (tAn (tV (mOp2 ltM (mB lenM (aCons (mVar 3) aNil)) (mInt 12))) (tV (mOp2 eqM (mCall f__law_take (aCons (mVar 0) (aCons (mInt 6) aNil))) (mInt 0)))))) (mSeq (mAsg (mTup (aCons (mOp2 ixM (mVar 2) (mInt 0)) (aCons (mOp2 ixM (mVar 2) (mInt 1)) (aCons (mVar 5) aNil)))) (gN 6))
    (mAsg (mOp2 plusM (mVar 3) (mOp2 mulM2 (mLst (aCons (mVar 6) aNil)) (mB intM (aCons (mOp2 notInSeqM (mVar 6) (mVar 3)) aNil)))) (gN 3))) mNext)) [2, 5, 6])
def b__law_with_needless : MS :=
    (mSeq (mPar 3 4 (aCons (mB listM (aCons (mOp2 ixM (mVar 1) (mInt 1)) aNil)) (aCons (mCall f__law_gaps (aCons (mVar 1) aNil)) aNil)))
    (mSeq (mForW (iSeq (mB sortM (aCons (mB listDM (aCons (mVar 4) aNil)) aNil))) (gN 2) l__law_with_needless_1 [2, 5, 6])
    (mRet (mTup (aCons (mOp2 ixM (mVar 1) (mInt 0)) (aCons (mB tupleM (aCons (mB sortM (aCons (mVar 3) aNil)) aNil)) aNil))))))
def f__law_with_needless : Sem := mFn mdF mdD 2 7 b__law_with_needless
def b_least_endless : MS :=
    (mSeq (mDrop (mCall f_require_lasting (aCons (mVar 0) aNil)))
    (mRet (mCall f_find_least_endless (aCons (mVar 0) aNil))))
def f_least_endless : Sem := mFn mdF mdD 1 1 b_least_endless
def b_is_needed_wait : MS :=
    (mSeq (mDrop (mCall f_require_lasting (aCons (mVar 0) aNil)))
    (mSeq (mIf (tNo (tV (mCall f_is_wait_of_endless (aCons (mVar 0) (aCons (mVar 1) aNil))))) mNo mNext)
    (mRet (mCall f_is_needed_in (aCons (mCall (newF 100 f_Gaps___init__) (aCons (mVar 0) aNil)) (aCons (mVar 1) aNil))))))
def f_is_needed_wait : Sem := mFn mdF mdD 2 2 b_is_needed_wait
def l_law_1 : MS :=
    (mWp (mIf (tV (mOp2 neM (mB reprM2 (aCons (mCall f_is_needed_wait (aCons (mVar 3) (aCons (mVar 4) aNil))) aNil)) (mB reprM2 (aCons (mOp2 inSeqM (mVar 4) (mOp2 ixM (mVar 5) (mInt 1))) aNil)))) (mRet (mBl false)) mNext) [0, 2, 4])
def l_law_2 : MS :=
    (mWp (mSeq (mAsg (mCall f__law_endless (aCons (mCall f__law_anew (aCons (mVar 1) aNil)) (aCons (mInt 8) aNil))) (gN 3))
    (mSeq (mAsg (mCall f__law_with_needless (aCons (mCall f__law_anew (aCons (mVar 1) aNil)) (aCons (mVar 3) aNil))) (gN 3))
    (mSeq (mPar 5 6 (aCons (mCall f__law_thin (aCons (mVar 3) aNil)) (aCons (mB reprM2 (aCons (mVar 3) aNil)) aNil)))
    (mSeq (mIf (tOr (tV (mOp2 neM (mB reprM2 (aCons (mCall f_least_endless (aCons (mVar 3) aNil)) aNil)) (mB reprM2 (aCons (mVar 5) aNil)))) (tV (mOp2 neM (mB reprM2 (aCons (mCall f_least_endless (aCons (mVar 5) aNil)) aNil)) (mB reprM2 (aCons (mVar 5) aNil))))) (mRet (mBl false)) mNext)
    (mSeq (mForW (iSeq (mOp2 ixM (mVar 3) (mInt 1))) (gN 4) l_law_1 [0, 2, 4])
    (mIf (tV (mOp2 neM (mB reprM2 (aCons (mVar 3) aNil)) (mVar 6))) (mRet (mBl false)) mNext)))))) [0, 2, 3, 4, 5, 6])
def b_law : MS :=
    (mSeq (mAsg (mCall f__law_open (aCons (mVar 0) aNil)) (gN 1))
    (mSeq (mForW (iRng1 (aCons (mInt 3) aNil)) (gN 2) l_law_2 [0, 2, 3, 4, 5, 6])
    (mRet (mBl true))))
def f_law : Sem := mFn mdF mdD 1 7 b_law
end Lw
namespace Mini
open PySem PySem.Spec PyProof.Rows L2
def clsTop (s : Stmt) (i : Nat) : Stmt := match s with
  | .ClassDef _ _ _ b _ _ _ _ _ _ _ => b.getD i (.Pass ⟨0, 0, 0, 0⟩)
  | x => x
end Mini
namespace Lw
open PySem PySem.Spec PyProof.Rows L2 Mini

def top (i : Nat) : Stmt := PySem.Challenge.pw_flagplans_k17_needed_waits_and_least_pla.main.body.getD i (.Pass ⟨0, 0, 0, 0⟩)
def ctop_Gaps_shorten : Stmt := clsTop (top 26) 1
def ctop_Gaps___init__ : Stmt := clsTop (top 26) 0
def ctop_Gaps_find : Stmt := clsTop (top 26) 2
structure G (K : PySem.W.Frag) (mg : Str → Option Value) where
  a__law_open : Addr
  d__law_open : FuncData
  F__law_open : FnP K "_law_open" (top 35) a__law_open d__law_open
  g__law_open : mg "_law_open" = some (.ref a__law_open)
  a__law_jobs : Addr
  d__law_jobs : FuncData
  F__law_jobs : FnP K "_law_jobs" (top 39) a__law_jobs d__law_jobs
  g__law_jobs : mg "_law_jobs" = some (.ref a__law_jobs)
  a__law_spread : Addr
  d__law_spread : FuncData
  F__law_spread : FnP K "_law_spread" (top 34) a__law_spread d__law_spread
  g__law_spread : mg "_law_spread" = some (.ref a__law_spread)
  a__law_take : Addr
  d__law_take : FuncData
  F__law_take : FnP K "_law_take" (top 37) a__law_take d__law_take
  g__law_take : mg "_law_take" = some (.ref a__law_take)
  a__law_one : Addr
  d__law_one : FuncData
  F__law_one : FnP K "_law_one" (top 38) a__law_one d__law_one
  g__law_one : mg "_law_one" = some (.ref a__law_one)
  a__law_links : Addr
  d__law_links : FuncData
  F__law_links : FnP K "_law_links" (top 40) a__law_links d__law_links
  g__law_links : mg "_law_links" = some (.ref a__law_links)
  a__law_does_stick : Addr
  d__law_does_stick : FuncData
  F__law_does_stick : FnP K "_law_does_stick" (top 41) a__law_does_stick d__law_does_stick
  g__law_does_stick : mg "_law_does_stick" = some (.ref a__law_does_stick)
  a__law_endless : Addr
  d__law_endless : FuncData
  F__law_endless : FnP K "_law_endless" (top 42) a__law_endless d__law_endless
  g__law_endless : mg "_law_endless" = some (.ref a__law_endless)
  a__law_gaps : Addr
  d__law_gaps : FuncData
  F__law_gaps : FnP K "_law_gaps" (top 43) a__law_gaps d__law_gaps
  g__law_gaps : mg "_law_gaps" = some (.ref a__law_gaps)
  a__law_with_needless : Addr
  d__law_with_needless : FuncData
  F__law_with_needless : FnP K "_law_with_needless" (top 46) a__law_with_needless d__law_with_needless
  g__law_with_needless : mg "_law_with_needless" = some (.ref a__law_with_needless)
  a__law_anew : Addr
  d__law_anew : FuncData
  F__law_anew : FnP K "_law_anew" (top 36) a__law_anew d__law_anew
  g__law_anew : mg "_law_anew" = some (.ref a__law_anew)
  a__law_short_rows : Addr
  d__law_short_rows : FuncData
  F__law_short_rows : FnP K "_law_short_rows" (top 44) a__law_short_rows d__law_short_rows
  g__law_short_rows : mg "_law_short_rows" = some (.ref a__law_short_rows)
  a__law_thin : Addr
  d__law_thin : FuncData
  F__law_thin : FnP K "_law_thin" (top 45) a__law_thin d__law_thin
  g__law_thin : mg "_law_thin" = some (.ref a__law_thin)
  a_is_ascending : Addr
  d_is_ascending : FuncData
  F_is_ascending : FnP K "is_ascending" (top 9) a_is_ascending d_is_ascending
  g_is_ascending : mg "is_ascending" = some (.ref a_is_ascending)
  a_is_integer : Addr
  d_is_integer : FuncData
  F_is_integer : FnP K "is_integer" (top 5) a_is_integer d_is_integer
  g_is_integer : mg "is_integer" = some (.ref a_is_integer)
  a_is_between : Addr
  d_is_between : FuncData
  F_is_between : FnP K "is_between" (top 6) a_is_between d_is_between
  g_is_between : mg "is_between" = some (.ref a_is_between)
  a_are_endless_sizes : Addr
  d_are_endless_sizes : FuncData
  F_are_endless_sizes : FnP K "are_endless_sizes" (top 18) a_are_endless_sizes d_are_endless_sizes
  g_are_endless_sizes : mg "are_endless_sizes" = some (.ref a_are_endless_sizes)
  a_is_job_in : Addr
  d_is_job_in : FuncData
  F_is_job_in : FnP K "is_job_in" (top 8) a_is_job_in d_is_job_in
  g_is_job_in : mg "is_job_in" = some (.ref a_is_job_in)
  a_is_linked_wait : Addr
  d_is_linked_wait : FuncData
  F_is_linked_wait : FnP K "is_linked_wait" (top 19) a_is_linked_wait d_is_linked_wait
  g_is_linked_wait : mg "is_linked_wait" = some (.ref a_is_linked_wait)
  a_is_endless_plan : Addr
  d_is_endless_plan : FuncData
  F_is_endless_plan : FnP K "is_endless_plan" (top 20) a_is_endless_plan d_is_endless_plan
  g_is_endless_plan : mg "is_endless_plan" = some (.ref a_is_endless_plan)
  a_require_endless : Addr
  d_require_endless : FuncData
  F_require_endless : FnP K "require_endless" (top 23) a_require_endless d_require_endless
  g_require_endless : mg "require_endless" = some (.ref a_require_endless)
  a_list_jobs : Addr
  d_list_jobs : FuncData
  F_list_jobs : FnP K "list_jobs" (top 10) a_list_jobs d_list_jobs
  g_list_jobs : mg "list_jobs" = some (.ref a_list_jobs)
  a_find_links : Addr
  d_find_links : FuncData
  F_find_links : FnP K "find_links" (top 21) a_find_links d_find_links
  g_find_links : mg "find_links" = some (.ref a_find_links)
  a_find_zero : Addr
  d_find_zero : FuncData
  F_find_zero : FnP K "find_zero" (top 22) a_find_zero d_find_zero
  g_find_zero : mg "find_zero" = some (.ref a_find_zero)
  a_require_lasting : Addr
  d_require_lasting : FuncData
  F_require_lasting : FnP K "require_lasting" (top 24) a_require_lasting d_require_lasting
  g_require_lasting : mg "require_lasting" = some (.ref a_require_lasting)
  a_Gaps_shorten : Addr
  d_Gaps_shorten : FuncData
  F_Gaps_shorten : FunD K "shorten" "Gaps.shorten" (defArgs ctop_Gaps_shorten) (defBody ctop_Gaps_shorten) (defScope ctop_Gaps_shorten) [] [] a_Gaps_shorten d_Gaps_shorten
  a_Gaps___init__ : Addr
  d_Gaps___init__ : FuncData
  F_Gaps___init__ : FunD K "__init__" "Gaps.__init__" (defArgs ctop_Gaps___init__) (defBody ctop_Gaps___init__) (defScope ctop_Gaps___init__) [] [] a_Gaps___init__ d_Gaps___init__
  a_Gaps_find : Addr
  d_Gaps_find : FuncData
  F_Gaps_find : FunD K "find" "Gaps.find" (defArgs ctop_Gaps_find) (defBody ctop_Gaps_find) (defScope ctop_Gaps_find) [] [] a_Gaps_find d_Gaps_find
  a_is_needed_in : Addr
  d_is_needed_in : FuncData
  F_is_needed_in : FnP K "is_needed_in" (top 29) a_is_needed_in d_is_needed_in
  g_is_needed_in : mg "is_needed_in" = some (.ref a_is_needed_in)
  a_find_least_endless : Addr
  d_find_least_endless : FuncData
  F_find_least_endless : FnP K "find_least_endless" (top 30) a_find_least_endless d_find_least_endless
  g_find_least_endless : mg "find_least_endless" = some (.ref a_find_least_endless)
  a_least_endless : Addr
  d_least_endless : FuncData
  F_least_endless : FnP K "least_endless" (top 32) a_least_endless d_least_endless
  g_least_endless : mg "least_endless" = some (.ref a_least_endless)
  a_is_wait_of_endless : Addr
  d_is_wait_of_endless : FuncData
  F_is_wait_of_endless : FnP K "is_wait_of_endless" (top 28) a_is_wait_of_endless d_is_wait_of_endless
  g_is_wait_of_endless : mg "is_wait_of_endless" = some (.ref a_is_wait_of_endless)
  a_is_needed_wait : Addr
  d_is_needed_wait : FuncData
  F_is_needed_wait : FnP K "is_needed_wait" (top 31) a_is_needed_wait d_is_needed_wait
  g_is_needed_wait : mg "is_needed_wait" = some (.ref a_is_needed_wait)
  a_law : Addr
  d_law : FuncData
  F_law : FnP K "law" (top 47) a_law d_law
  g_law : mg "law" = some (.ref a_law)
  n_all : mg "all" = none
  n_any : mg "any" = none
  n_bool : mg "bool" = none
  n_enumerate : mg "enumerate" = none
  n_int : mg "int" = none
  n_isinstance : mg "isinstance" = none
  n_len : mg "len" = none
  n_list : mg "list" = none
  n_min : mg "min" = none
  n_range : mg "range" = none
  n_repr : mg "repr" = none
  n_set : mg "set" = none
  n_sorted : mg "sorted" = none
  n_tuple : mg "tuple" = none
  i_GREATEST_DISTANCE : ∃ t, mg "GREATEST_DISTANCE" = some (.int 3 t)
  i_GREATEST_SIZE : ∃ t, mg "GREATEST_SIZE" = some (.int 4 t)
  i_MOST_LINKED : ∃ t, mg "MOST_LINKED" = some (.int 12 t)
  cls : Nat → Addr
  cl_Gaps : Cls K (cls 100)
  mk_Gaps : Mk K (cls 100) a_Gaps___init__
  x_Gaps : mg "Gaps" = some (.ref (cls 100))
  na_Gaps_base : NoAttr K (cls 100) "base"
  na_Gaps_links : NoAttr K (cls 100) "links"
  na_Gaps_members : NoAttr K (cls 100) "members"
  na_Gaps_shortest : NoAttr K (cls 100) "shortest"
  me_Gaps_shorten : Meth K (cls 100) "shorten" a_Gaps_shorten
  me_Gaps_find : Meth K (cls 100) "find" a_Gaps_find
section
variable {P : Program} {w : World} {K : PySem.W.Frag} {mg : Str → Option Value} {base : Heap}
def Ly (w : World) (g : G K mg) : Lay := { w := w, cls := g.cls, fld := fldC, hid := fun _ => False }
theorem sc__law_open : FnScope (["script", "cells", "k", "cell"] : List Str) ["script"] (defScope (top 35)) := ⟨rfl, rfl, rfl, by decide +kernel, rfl, by decide +kernel, by decide +kernel⟩
theorem b__law_open_ (g : G K mg) : Binds K g.d__law_open ["script"] [] := g.F__law_open.bindsN fun _ _ _ _ _ _ us hl => match us, hl with | [_], _ => rfl
theorem ok__law_open (g : G K mg) : FnG (Ly w g) P w K mg base 1 g.a__law_open g.d__law_open ["script"] f__law_open :=
  funOk g.F__law_open sc__law_open rfl rfl mdK_ok mdK_okx fun cdv hid A outer s H E hr => by
    have sc := sc__law_open
    exact (ss_cons (ss_set sc.nd (sn_T call_listMC rfl g.n_list (sa_cons (sn_sl sl_M (sv 0) so_no (so_at sn_int)) sa_nil)))
    (ss_cons (ss_for (passes_of rfl) rfl (si_enum rfl g.n_enumerate (sa_cons (sn_sl sl_M (sv 0) (so_at sn_int) (so_at sn_int)) sa_nil)) (sg_tup rfl (sgs_cons (sg_name sc.nd) (sgs_cons (sg_name sc.nd) sgs_nil))) (ss_one (ss_asg (sn_bin op_plusM (sn_ix (sv 1) (sn_bin op_modM (sn_T call_intM rfl g.n_int (sa_cons (sv 2) sa_nil)) sn_int)) (sv 3)) (sg_ix (sv 1) (sn_bin op_modM (sn_T call_intM rfl g.n_int (sa_cons (sv 2) sa_nil)) sn_int)))))
    (ss_one (ss_ret (sn_lstC (sa_cons (sv 1) (sa_cons sn_int (sa_cons sn_int sa_nil))))))))
theorem sc__law_jobs : FnScope (["sizes", "found", "queue", "size", "place"] : List Str) ["sizes"] (defScope (top 39)) := ⟨rfl, rfl, rfl, by decide +kernel, rfl, by decide +kernel, by decide +kernel⟩
theorem b__law_jobs_ (g : G K mg) : Binds K g.d__law_jobs ["sizes"] [] := g.F__law_jobs.bindsN fun _ _ _ _ _ _ us hl => match us, hl with | [_], _ => rfl
theorem ok__law_jobs (g : G K mg) : FnG (Ly w g) P w K mg base 1 g.a__law_jobs g.d__law_jobs ["sizes"] f__law_jobs :=
  funOk g.F__law_jobs sc__law_jobs rfl rfl mdF_ok mdD_okx fun cdv hid A outer s H E hr => by
    have sc := sc__law_jobs
    exact (ss_cons (ss_set sc.nd (sn_lstC sa_nil))
    (ss_cons (ss_for (passes_of rfl) rfl (si_enum rfl g.n_enumerate (sa_cons (sv 0) sa_nil)) (sg_tup rfl (sgs_cons (sg_name sc.nd) (sgs_cons (sg_name sc.nd) sgs_nil))) (ss_one (ss_expr (sn_mt F.slot_list_extend F.type_list_extend mt_extendM (sv 1) (sa_cons (sn_lc (own := [("place", 4)]) rfl sc.nd (si_rng1 rfl g.n_range (sa_cons (sv 3) sa_nil)) rfl (fun _ _ _ _ _ _ => (sgo_name sc.nd)) (fun _ _ _ _ _ _ => sts_nil) (fun _ _ _ _ _ _ => (sn_tup (sa_cons (sv 2) (sa_cons (sv 4) sa_nil))))) sa_nil)))))
    (ss_one (ss_ret (sv 1)))))
theorem sc__law_spread : FnScope (["cell", "at", "primes", "mixed", "one", "rest", "two", "three"] : List Str) ["cell", "at"] (defScope (top 34)) := ⟨rfl, rfl, rfl, by decide +kernel, rfl, by decide +kernel, by decide +kernel⟩
theorem b__law_spread_ (g : G K mg) : Binds K g.d__law_spread ["cell", "at"] [] := g.F__law_spread.bindsN fun _ _ _ _ _ _ us hl => match us, hl with | [_, _], _ => rfl
theorem ok__law_spread (g : G K mg) : FnG (Ly w g) P w K mg base 1 g.a__law_spread g.d__law_spread ["cell", "at"] f__law_spread :=
  funOk g.F__law_spread sc__law_spread rfl rfl mdF_ok mdD_okx fun cdv hid A outer s H E hr => by
    have sc := sc__law_spread
    exact (ss_cons (ss_if (st_cmp op_geM (sv 0) (sn_bin op_powM sn_int sn_int) rfl) (ss_one (ss_ret (sv 0))) ss_nil)
    (ss_cons (ss_set sc.nd (sn_lst (sa_cons sn_int (sa_cons sn_int (sa_cons sn_int (sa_cons sn_int (sa_cons sn_int (sa_cons sn_int (sa_cons sn_int sa_nil)))))))))
    (ss_cons (ss_set sc.nd (sn_bin op_plusM (sv 2) (sn_lst (sa_cons sn_int (sa_cons sn_int (sa_cons sn_int (sa_cons sn_int (sa_cons sn_int (sa_cons sn_int sa_nil)))))))))
    (ss_cons (ss_set sc.nd (sn_bin op_plusM (sn_bin op_plusM (sn_bin op_mulM2 (sn_bin op_modM (sn_T call_intM rfl g.n_int (sa_cons (sv 0) sa_nil)) sn_int) (sn_bin op_plusM (sn_bin op_mulM2 sn_int (sv 1)) sn_int)) (sn_bin op_mulM2 (sv 1) sn_int)) sn_int))
    (ss_cons (ss_set sc.nd (sn_bin op_modM (sn_T call_intM rfl g.n_int (sa_cons (sn_bin op_powM (sv 3) sn_int) sa_nil)) (sn_ix (sv 2) (sn_bin op_modM (sn_T call_intM rfl g.n_int (sa_cons (sv 1) sa_nil)) sn_int))))
    (ss_cons (ss_set sc.nd (sn_bin op_plusM (sn_bin op_modM (sn_T call_intM rfl g.n_int (sa_cons (sv 0) sa_nil)) sn_int) sn_int))
    (ss_cons (ss_set sc.nd (sn_bin op_modM (sn_T call_intM rfl g.n_int (sa_cons (sn_bin op_powM (sn_bin op_plusM (sn_bin op_mulM2 (sv 4) (sn_bin op_plusM (sv 1) sn_int)) (sv 5)) sn_int) sa_nil)) (sn_ix (sv 2) (sn_bin op_modM (sn_T call_intM rfl g.n_int (sa_cons (sn_bin op_plusM (sv 1) sn_int) sa_nil)) sn_int))))
    (ss_cons (ss_set sc.nd (sn_bin op_modM (sn_T call_intM rfl g.n_int (sa_cons (sn_bin op_powM (sn_bin op_plusM (sn_bin op_plusM (sv 6) (sn_bin op_modM (sn_T call_intM rfl g.n_int (sa_cons (sv 4) sa_nil)) sn_int)) (sv 1)) sn_int) sa_nil)) (sn_ix (sv 2) (sn_bin op_modM (sn_T call_intM rfl g.n_int (sa_cons (sn_bin op_plusM (sv 1) sn_int) sa_nil)) sn_int))))
    (ss_one (ss_ret (sn_bin op_plusM (sn_bin op_mulM2 (sn_bin op_plusM (sn_bin op_mulM2 (sv 4) sn_int) (sv 6)) sn_int) (sv 7))))))))))))
theorem sc__law_take : FnScope (["pen", "many", "found", "at", "cell"] : List Str) ["pen", "many"] (defScope (top 37)) := ⟨rfl, rfl, rfl, by decide +kernel, rfl, by decide +kernel, by decide +kernel⟩
theorem b__law_take_ (g : G K mg) : Binds K g.d__law_take ["pen", "many"] [] := g.F__law_take.bindsN fun _ _ _ _ _ _ us hl => match us, hl with | [_, _], _ => rfl
theorem ok__law_take (g : G K mg) : FnG (Ly w g) P w K mg base 2 g.a__law_take g.d__law_take ["pen", "many"] f__law_take :=
  funOk g.F__law_take sc__law_take rfl rfl mdF_ok mdD_okx fun cdv hid A outer s H E hr => by
    have sc := sc__law_take
    exact (ss_cons (ss_if (st_cmp op_ltM (sn_ix (sv 0) sn_int) (sv 1) rfl) (ss_cons (ss_set sc.nd (sn_ix (sv 0) sn_int))
    (ss_cons (ss_set sc.nd sn_int)
    (ss_cons (ss_if (st_cmp op_ltM (sv 3) (sn_B call_lenM rfl g.n_len (sa_cons (sn_ix (sv 0) sn_int) sa_nil)) rfl) (ss_one (ss_set sc.nd (sn_ix (sn_ix (sv 0) sn_int) (sv 3)))) (ss_one (ss_if (st_cmp op_gtM (sn_B call_lenM rfl g.n_len (sa_cons (sn_ix (sv 0) sn_int) sa_nil)) sn_int rfl) (ss_one (ss_set sc.nd (sn_bin op_modM (sn_T call_intM rfl g.n_int (sa_cons (sn_ix (sn_ix (sv 0) sn_int) (sn_bin op_modM (sn_T call_intM rfl g.n_int (sa_cons (sn_bin op_plusM (sn_bin op_mulM2 (sv 3) sn_int) sn_int) sa_nil)) (sn_B call_lenM rfl g.n_len (sa_cons (sn_ix (sv 0) sn_int) sa_nil)))) sa_nil)) (sn_bin op_plusM (sn_bin op_powM sn_int sn_int) (sv 3))))) ss_nil)))
    (ss_cons (ss_asg (sn_bin op_plusM (sv 3) sn_int) (sg_ix (sv 0) sn_int))
    (ss_one (ss_asg (sn_call (ok__law_spread g) (hr.mono (by decide)) (takes_of rfl rfl rfl rfl) rfl g.g__law_spread g.F__law_spread.kp (b__law_spread_ g) (sa_cons (sv 4) (sa_cons (sv 3) sa_nil))) (sg_ix (sv 0) sn_int))))))) ss_nil)
    (ss_cons (ss_set sc.nd (sn_bin op_modM (sn_T call_intM rfl g.n_int (sa_cons (sn_ix (sv 0) sn_int) sa_nil)) (sv 1)))
    (ss_cons (ss_asg (sn_bin op_fdivM (sn_ix (sv 0) sn_int) (sv 1)) (sg_ix (sv 0) sn_int))
    (ss_one (ss_ret (sv 2))))))
theorem sc__law_one : FnScope (["pen", "some"] : List Str) ["pen", "some"] (defScope (top 38)) := ⟨rfl, rfl, rfl, by decide +kernel, rfl, by decide +kernel, by decide +kernel⟩
theorem b__law_one_ (g : G K mg) : Binds K g.d__law_one ["pen", "some"] [] := g.F__law_one.bindsN fun _ _ _ _ _ _ us hl => match us, hl with | [_, _], _ => rfl
theorem ok__law_one (g : G K mg) : FnG (Ly w g) P w K mg base 3 g.a__law_one g.d__law_one ["pen", "some"] f__law_one :=
  funOk g.F__law_one sc__law_one rfl rfl mdF_ok mdD_okx fun cdv hid A outer s H E hr => by
    have sc := sc__law_one
    exact (ss_one (ss_ret (sn_ix (sv 1) (sn_call (ok__law_take g) (hr.mono (by decide)) (takes_of rfl rfl rfl rfl) rfl g.g__law_take g.F__law_take.kp (b__law_take_ g) (sa_cons (sv 0) (sa_cons (sn_B call_lenM rfl g.n_len (sa_cons (sv 1) sa_nil)) sa_nil))))))
theorem sc__law_links : FnScope (["plan", "found", "queue", "size", "place", "last"] : List Str) ["plan"] (defScope (top 40)) := ⟨rfl, rfl, rfl, by decide +kernel, rfl, by decide +kernel, by decide +kernel⟩
theorem b__law_links_ (g : G K mg) : Binds K g.d__law_links ["plan"] [] := g.F__law_links.bindsN fun _ _ _ _ _ _ us hl => match us, hl with | [_], _ => rfl
theorem ok__law_links (g : G K mg) : FnG (Ly w g) P w K mg base 1 g.a__law_links g.d__law_links ["plan"] f__law_links :=
  funOk g.F__law_links sc__law_links rfl rfl mdF_ok mdD_okx fun cdv hid A outer s H E hr => by
    have sc := sc__law_links
    exact (ss_cons (ss_set sc.nd (sn_T call_listMC rfl g.n_list (sa_cons (sn_ix (sv 0) sn_int) sa_nil)))
    (ss_cons (ss_forW (ws := [0, 2, 3, 4, 5]) (passes_of rfl) rfl (si_enum rfl g.n_enumerate (sa_cons (sn_ix (sv 0) sn_int) sa_nil)) (sg_tup rfl (sgs_cons (sg_name sc.nd) (sgs_cons (sg_name sc.nd) sgs_nil))) (sss_wp (ws := [0, 2, 3, 4, 5]) (ss_one (ss_forW (ws := [0, 4, 5]) (passes_of rfl) rfl (si_rng1 rfl g.n_range (sa_cons (sv 3) sa_nil)) (sg_name sc.nd) (sss_wp (ws := [0, 4, 5]) (ss_cons (ss_set sc.nd (sn_cmp (op_eqM hr.un) (sv 4) (sn_bin op_subM (sv 3) sn_int) rfl))
    (ss_one (ss_expr (sn_mt F.slot_list_append F.type_list_append mt_appendM (sv 1) (sa_cons (sn_tup (sa_cons (sn_tup (sa_cons (sv 2) (sa_cons (sv 4) sa_nil))) (sa_cons (sn_tup (sa_cons (sv 2) (sa_cons (sn_ifE (st_val (sv 5)) sn_int (sn_bin op_plusM (sv 4) sn_int)) sa_nil))) (sa_cons (sn_T call_intM rfl g.n_int (sa_cons (sv 5) sa_nil)) sa_nil)))) sa_nil))))))))))
    (ss_one (ss_ret (sn_B (call_sortM hr.un) rfl g.n_sorted (sa_cons (sv 1) sa_nil))))))
theorem sc__law_does_stick : FnScope (["sizes", "waits", "job", "other", "due", "seen", "links", "here", "link"] : List Str) ["sizes", "waits", "job", "other"] (defScope (top 41)) := ⟨rfl, rfl, rfl, by decide +kernel, rfl, by decide +kernel, by decide +kernel⟩
theorem b__law_does_stick_ (g : G K mg) : Binds K g.d__law_does_stick ["sizes", "waits", "job", "other"] [] := g.F__law_does_stick.bindsN fun _ _ _ _ _ _ us hl => match us, hl with | [_, _, _, _], _ => rfl
theorem ok__law_does_stick (g : G K mg) : FnG (Ly w g) P w K mg base 2 g.a__law_does_stick g.d__law_does_stick ["sizes", "waits", "job", "other"] f__law_does_stick :=
  funOk g.F__law_does_stick sc__law_does_stick rfl rfl mdF_ok mdD_okx fun cdv hid A outer s H E hr => by
    have sc := sc__law_does_stick
    exact (ss_cons (ss_par3 sc.nd (sa_cons (sn_lstC (sa_cons (sv 2) sa_nil)) (sa_cons (sn_lstC sa_nil) (sa_cons (sn_call (ok__law_links g) (hr.mono (by decide)) (takes_of rfl rfl rfl rfl) rfl g.g__law_links g.F__law_links.kp (b__law_links_ g) (sa_cons (sn_tup (sa_cons (sv 0) (sa_cons (sn_T call_tupleM rfl g.n_tuple (sa_cons (sv 1) sa_nil)) sa_nil))) sa_nil)) sa_nil))))
    (ss_cons (ss_wb (ws := [0, 1, 2, 7]) (ss_while (passes_of rfl) (st_cmp (op_neM hr.un) (sv 4) (sn_lst sa_nil) rfl) (sss_wp (ws := [0, 1, 2, 7]) (ss_cons (ss_set sc.nd (sn_mt0 F.slot_list_pop F.type_list_pop mt_popM (sv 4)))
    (ss_one (ss_if (st_cmp (op_notInSeqM hr.un65) (sv 7) (sv 5) rfl) (ss_cons (ss_expr (sn_mt F.slot_list_append F.type_list_append mt_appendM (sv 5) (sa_cons (sv 7) sa_nil)))
    (ss_one (ss_expr (sn_mt F.slot_list_extend F.type_list_extend mt_extendM (sv 4) (sa_cons (sn_lc (own := [("link", 8)]) rfl sc.nd (si_seq (sv 6)) rfl (fun _ _ _ _ _ _ => (sgo_name sc.nd)) (fun _ _ _ _ _ _ => (sts_one (sw_st (sw_and (st_cmp (op_eqM hr.un) (sn_ix (sv 8) sn_int) (sv 7) rfl) (sw_and1 (st_cmp (op_eqM hr.un) (sn_ix (sv 8) sn_int) sn_int rfl)))))) (fun _ _ _ _ _ _ => (sn_ix (sv 8) sn_int))) sa_nil))))) ss_nil))))))
    (ss_one (ss_ret (sn_cmp (op_inSeqM hr.un65) (sv 3) (sv 5) rfl)))))
theorem sc__law_endless : FnScope (["pen", "most", "sizes", "step", "waits", "members", "distance", "first", "second", "k"] : List Str) ["pen", "most"] (defScope (top 42)) := ⟨rfl, rfl, rfl, by decide +kernel, rfl, by decide +kernel, by decide +kernel⟩
theorem b__law_endless_ (g : G K mg) : Binds K g.d__law_endless ["pen", "most"] [] := g.F__law_endless.bindsN fun _ _ _ _ _ _ us hl => match us, hl with | [_, _], _ => rfl
theorem ok__law_endless (g : G K mg) : FnG (Ly w g) P w K mg base 4 g.a__law_endless g.d__law_endless ["pen", "most"] f__law_endless :=
  funOk g.F__law_endless sc__law_endless rfl rfl mdF_ok mdD_okx fun cdv hid A outer s H E hr => by
    have sc := sc__law_endless
    exact (ss_cons (ss_set sc.nd (sn_T call_tupleM rfl g.n_tuple (sa_cons (sn_lc (own := [("k", 9)]) rfl sc.nd (si_rng1 rfl g.n_range (sa_cons (sn_call (ok__law_one g) (hr.mono (by decide)) (takes_of rfl rfl rfl rfl) rfl g.g__law_one g.F__law_one.kp (b__law_one_ g) (sa_cons (sv 0) (sa_cons (sn_lst (sa_cons sn_int (sa_cons sn_int (sa_cons sn_int (sa_cons sn_int (sa_cons sn_int (sa_cons sn_int sa_nil))))))) sa_nil))) sa_nil)) rfl (fun _ _ _ _ _ _ => (sgo_name sc.nd)) (fun _ _ _ _ _ _ => sts_nil) (fun _ _ _ _ _ _ => (sn_call (ok__law_one g) (hr.mono (by decide)) takes_no rfl g.g__law_one g.F__law_one.kp (b__law_one_ g) (sa_cons (sv 0) (sa_cons (sn_lst (sa_cons sn_int (sa_cons sn_int (sa_cons sn_int (sa_cons sn_int (sa_cons sn_int (sa_cons sn_int sa_nil))))))) sa_nil))))) sa_nil)))
    (ss_cons (ss_par sc.nd (sa_cons (sn_lst sa_nil) (sa_cons (sn_call (ok__law_jobs g) (hr.mono (by decide)) (takes_of rfl rfl rfl rfl) rfl g.g__law_jobs g.F__law_jobs.kp (b__law_jobs_ g) (sa_cons (sv 2) sa_nil)) sa_nil)))
    (ss_cons (ss_forW (ws := [1, 3, 6, 7, 8]) (passes_of rfl) rfl (si_rng1 rfl g.n_range (sa_cons (sn_call (ok__law_take g) (hr.mono (by decide)) (takes_of rfl rfl rfl rfl) rfl g.g__law_take g.F__law_take.kp (b__law_take_ g) (sa_cons (sv 0) (sa_cons (sn_bin op_plusM (sv 1) sn_int) sa_nil))) sa_nil)) (sg_name sc.nd) (sss_wp (ws := [1, 3, 6, 7, 8]) (ss_cons (ss_par sc.nd (sa_cons (sn_call (ok__law_one g) (hr.mono (by decide)) (takes_of rfl rfl rfl rfl) rfl g.g__law_one g.F__law_one.kp (b__law_one_ g) (sa_cons (sv 0) (sa_cons (sv 5) sa_nil))) (sa_cons (sn_call (ok__law_one g) (hr.mono (by decide)) (takes_of rfl rfl rfl rfl) rfl g.g__law_one g.F__law_one.kp (b__law_one_ g) (sa_cons (sv 0) (sa_cons (sv 5) sa_nil))) sa_nil)))
    (ss_cons (ss_set sc.nd (sn_call (ok__law_one g) (hr.mono (by decide)) (takes_of rfl rfl rfl rfl) rfl g.g__law_one g.F__law_one.kp (b__law_one_ g) (sa_cons (sv 0) (sa_cons (sn_lst (sa_cons sn_int (sa_cons sn_int (sa_cons sn_int (sa_cons sn_int (sa_cons sn_int (sa_cons sn_int (sa_cons sn_int sa_nil)))))))) sa_nil))))
    (ss_one (ss_if (st_cmp (op_neM hr.un) (sn_ix (sv 7) sn_int) (sn_ix (sv 8) sn_int) rfl) (ss_cons (ss_if (sw_st (sw_and (st_cmp (op_eqM hr.un) (sv 6) sn_int rfl) (sw_and1 (st_val (sn_call (ok__law_does_stick g) (hr.mono (by decide)) (takes_of rfl rfl rfl rfl) rfl g.g__law_does_stick g.F__law_does_stick.kp (b__law_does_stick_ g) (sa_cons (sv 2) (sa_cons (sv 4) (sa_cons (sv 8) (sa_cons (sv 7) sa_nil))))))))) (ss_one (ss_set sc.nd (sn_bin op_plusM sn_int (sn_call (ok__law_take g) (hr.mono (by decide)) (takes_of rfl rfl rfl rfl) rfl g.g__law_take g.F__law_take.kp (b__law_take_ g) (sa_cons (sv 0) (sa_cons sn_int sa_nil)))))) ss_nil)
    (ss_one (ss_set sc.nd (sn_bin op_plusM (sv 4) (sn_bin op_mulM2 (sn_lst (sa_cons (sn_tup (sa_cons (sv 7) (sa_cons (sv 8) (sa_cons (sv 6) sa_nil)))) sa_nil)) (sn_T call_intM rfl g.n_int (sa_cons (sn_cmp (op_notInSeqM hr.un65) (sn_tup (sa_cons (sv 7) (sa_cons (sv 8) (sa_cons (sv 6) sa_nil)))) (sv 4) rfl) sa_nil))))))) ss_nil))))))
    (ss_one (ss_ret (sn_tup (sa_cons (sv 2) (sa_cons (sn_T call_tupleM rfl g.n_tuple (sa_cons (sn_B (call_sortM hr.un) rfl g.n_sorted (sa_cons (sv 4) sa_nil)) sa_nil)) sa_nil))))))))
theorem sc__law_gaps : FnScope (["plan", "job", "middle", "members", "found", "first", "second", "distance", "own"] : List Str) ["plan"] (defScope (top 43)) := ⟨rfl, rfl, rfl, by decide +kernel, rfl, by decide +kernel, by decide +kernel⟩
theorem b__law_gaps_ (g : G K mg) : Binds K g.d__law_gaps ["plan"] [] := g.F__law_gaps.bindsN fun _ _ _ _ _ _ us hl => match us, hl with | [_], _ => rfl
theorem ok__law_gaps (g : G K mg) : FnG (Ly w g) P w K mg base 2 g.a__law_gaps g.d__law_gaps ["plan"] f__law_gaps :=
  funOk g.F__law_gaps sc__law_gaps rfl rfl mdF_ok mdD_okx fun cdv hid A outer s H E hr => by
    have sc := sc__law_gaps
    exact (ss_cons (ss_par sc.nd (sa_cons (sn_call (ok__law_jobs g) (hr.mono (by decide)) (takes_of rfl rfl rfl rfl) rfl g.g__law_jobs g.F__law_jobs.kp (b__law_jobs_ g) (sa_cons (sn_ix (sv 0) sn_int) sa_nil)) (sa_cons (sn_d0 rfl) sa_nil)))
    (ss_cons (ss_forW (ws := [1, 2, 5, 6, 7, 8]) (passes_of rfl) rfl (si_seq (sv 3)) (sg_name sc.nd) (sss_wp (ws := [1, 2, 5, 6, 7, 8]) (ss_one (ss_asg sn_int (sg_ixD hr.un rfl (sv 4) (sn_tup (sa_cons (sv 1) (sa_cons (sv 1) sa_nil))))))))
    (ss_cons (ss_forW (ws := [0, 1, 2, 5, 6, 7, 8]) (passes_of rfl) rfl (si_seq (sn_call (ok__law_links g) (hr.mono (by decide)) (takes_of rfl rfl rfl rfl) rfl g.g__law_links g.F__law_links.kp (b__law_links_ g) (sa_cons (sv 0) sa_nil))) (sg_tup rfl (sgs_cons (sg_name sc.nd) (sgs_cons (sg_name sc.nd) (sgs_cons (sg_name sc.nd) sgs_nil)))) (sss_wp (ws := [0, 1, 2, 5, 6, 7, 8]) (ss_one (ss_asg (sn_B (call_min2M rfl) rfl g.n_min (sa_cons (sv 7) (sa_cons (sn_dm F.slot_dict_get F.type_dict_get rfl (mt_get2 hr.un rfl) (sv 4) (sa_cons (sn_tup (sa_cons (sv 5) (sa_cons (sv 6) sa_nil))) (sa_cons (sv 7) sa_nil))) sa_nil))) (sg_ixD hr.un rfl (sv 4) (sn_tup (sa_cons (sv 5) (sa_cons (sv 6) sa_nil))))))))
    (ss_cons (ss_forW (ws := [0, 1, 2, 5, 6, 7, 8]) (passes_of rfl) rfl (si_seq (sv 3)) (sg_name sc.nd) (sss_wp (ws := [0, 1, 2, 5, 6, 7, 8]) (ss_one (ss_forW (ws := [0, 1, 5, 6, 7, 8]) (passes_of rfl) rfl (si_seq (sv 3)) (sg_name sc.nd) (sss_wp (ws := [0, 1, 5, 6, 7, 8]) (ss_one (ss_forW (ws := [0, 1, 6, 7, 8]) (passes_of rfl) rfl (si_seq (sv 3)) (sg_name sc.nd) (sss_wp (ws := [0, 1, 6, 7, 8]) (ss_one (ss_if (sw_st (sw_and (st_cmp (Mini.op_inD hr.un rfl) (sn_tup (sa_cons (sv 5) (sa_cons (sv 2) sa_nil))) (sv 4) rfl) (sw_and1 (st_cmp (Mini.op_inD hr.un rfl) (sn_tup (sa_cons (sv 2) (sa_cons (sv 6) sa_nil))) (sv 4) rfl)))) (ss_cons (ss_set sc.nd (sn_bin op_plusM (sn_ixD hr.un rfl (sv 4) (sn_tup (sa_cons (sv 5) (sa_cons (sv 2) sa_nil)))) (sn_ixD hr.un rfl (sv 4) (sn_tup (sa_cons (sv 2) (sa_cons (sv 6) sa_nil))))))
    (ss_one (ss_asg (sn_B (call_min2M rfl) rfl g.n_min (sa_cons (sv 8) (sa_cons (sn_dm F.slot_dict_get F.type_dict_get rfl (mt_get2 hr.un rfl) (sv 4) (sa_cons (sn_tup (sa_cons (sv 5) (sa_cons (sv 6) sa_nil))) (sa_cons (sv 8) sa_nil))) sa_nil))) (sg_ixD hr.un rfl (sv 4) (sn_tup (sa_cons (sv 5) (sa_cons (sv 6) sa_nil))))))) ss_nil))))))))))
    (ss_one (ss_ret (sv 4)))))))
theorem sc__law_with_needless : FnScope (["pen", "plan", "pair", "waits", "gaps", "own", "wait"] : List Str) ["pen", "plan"] (defScope (top 46)) := ⟨rfl, rfl, rfl, by decide +kernel, rfl, by decide +kernel, by decide +kernel⟩
theorem b__law_with_needless_ (g : G K mg) : Binds K g.d__law_with_needless ["pen", "plan"] [] := g.F__law_with_needless.bindsN fun _ _ _ _ _ _ us hl => match us, hl with | [_, _], _ => rfl
theorem ok__law_with_needless (g : G K mg) : FnG (Ly w g) P w K mg base 3 g.a__law_with_needless g.d__law_with_needless ["pen", "plan"] f__law_with_needless :=
  funOk g.F__law_with_needless sc__law_with_needless rfl rfl mdF_ok mdD_okx fun cdv hid A outer s H E hr => by
    have sc := sc__law_with_needless
    exact (ss_cons (ss_par sc.nd (sa_cons (sn_T call_listM rfl g.n_list (sa_cons (sn_ix (sv 1) sn_int) sa_nil)) (sa_cons (sn_call (ok__law_gaps g) (hr.mono (by decide)) (takes_of rfl rfl rfl rfl) rfl g.g__law_gaps g.F__law_gaps.kp (b__law_gaps_ g) (sa_cons (sv 1) sa_nil)) sa_nil)))
    (ss_cons (ss_forW (ws := [2, 5, 6]) (passes_of rfl) rfl (si_seq (sn_B (call_sortM hr.un) rfl g.n_sorted (sa_cons (sn_T (call_listDM rfl rfl) rfl g.n_list (sa_cons (sv 4) sa_nil)) sa_nil))) (sg_name sc.nd) (sss_wp (ws := [2, 5, 6]) (ss_cons (ss_set sc.nd (sn_bin op_plusM (sn_ixD hr.un rfl (sv 4) (sv 2)) (sn_call (ok__law_take g) (hr.mono (by decide)) (takes_of rfl rfl rfl rfl) rfl g.g__law_take g.F__law_take.kp (b__law_take_ g) (sa_cons (sv 0) (sa_cons sn_int sa_nil)))))
    (ss_one (ss_if (sw_st (sw_and (st_cmp (op_neM hr.un) (sn_ix (sn_ix (sv 2) sn_int) sn_int) (sn_ix (sn_ix (sv 2) sn_int) sn_int) rfl) (sw_and (st_cmp op_ltM (sv 5) sn_int rfl) (sw_and (st_cmp op_ltM (sn_B call_lenM rfl g.n_len (sa_cons (sv 3) sa_nil)) sn_int rfl) (sw_and1 (st_cmp (op_eqM hr.un) (sn_call (ok__law_take g) (hr.mono (by decide)) (takes_of rfl rfl rfl rfl) rfl g.g__law_take g.F__law_take.kp (b__law_take_ g) (sa_cons (sv 0) (sa_cons sn_int sa_nil))) sn_int rfl)))))) (ss_cons (ss_set sc.nd (sn_tup (sa_cons (sn_ix (sv 2) sn_int) (sa_cons (sn_ix (sv 2) sn_int) (sa_cons (sv 5) sa_nil)))))
    (ss_one (ss_set sc.nd (sn_bin op_plusM (sv 3) (sn_bin op_mulM2 (sn_lst (sa_cons (sv 6) sa_nil)) (sn_T call_intM rfl g.n_int (sa_cons (sn_cmp (op_notInSeqM hr.un65) (sv 6) (sv 3) rfl) sa_nil))))))) ss_nil)))))
    (ss_one (ss_ret (sn_tup (sa_cons (sn_ix (sv 1) sn_int) (sa_cons (sn_T call_tupleM rfl g.n_tuple (sa_cons (sn_B (call_sortM hr.un) rfl g.n_sorted (sa_cons (sv 3) sa_nil)) sa_nil)) sa_nil)))))))
theorem sc__law_anew : FnScope (["pen"] : List Str) ["pen"] (defScope (top 36)) := ⟨rfl, rfl, rfl, by decide +kernel, rfl, by decide +kernel, by decide +kernel⟩
theorem b__law_anew_ (g : G K mg) : Binds K g.d__law_anew ["pen"] [] := g.F__law_anew.bindsN fun _ _ _ _ _ _ us hl => match us, hl with | [_], _ => rfl
theorem ok__law_anew (g : G K mg) : FnG (Ly w g) P w K mg base 1 g.a__law_anew g.d__law_anew ["pen"] f__law_anew :=
  funOk g.F__law_anew sc__law_anew rfl rfl mdF_ok mdD_okx fun cdv hid A outer s H E hr => by
    have sc := sc__law_anew
    exact (ss_cons (ss_asg sn_int (sg_ix (sv 0) sn_int))
    (ss_one (ss_ret (sv 0))))
theorem sc__law_short_rows : FnScope (["plan", "gaps", "found", "links", "first", "middle", "distance", "start", "end", "more", "job", "own"] : List Str) ["plan", "gaps"] (defScope (top 44)) := ⟨rfl, rfl, rfl, by decide +kernel, rfl, by decide +kernel, by decide +kernel⟩
theorem b__law_short_rows_ (g : G K mg) : Binds K g.d__law_short_rows ["plan", "gaps"] [] := g.F__law_short_rows.bindsN fun _ _ _ _ _ _ us hl => match us, hl with | [_, _], _ => rfl
theorem ok__law_short_rows (g : G K mg) : FnG (Ly w g) P w K mg base 2 g.a__law_short_rows g.d__law_short_rows ["plan", "gaps"] f__law_short_rows :=
  funOk g.F__law_short_rows sc__law_short_rows rfl rfl mdF_ok mdD_okx fun cdv hid A outer s H E hr => by
    have sc := sc__law_short_rows
    exact (ss_cons (ss_par sc.nd (sa_cons (sn_d0 rfl) (sa_cons (sn_call (ok__law_links g) (hr.mono (by decide)) (takes_of rfl rfl rfl rfl) rfl g.g__law_links g.F__law_links.kp (b__law_links_ g) (sa_cons (sv 0) sa_nil)) sa_nil)))
    (ss_cons (ss_forW (ws := [4, 5, 6, 7, 8, 9, 10, 11]) (passes_of rfl) rfl (si_seq (sv 3)) (sg_tup rfl (sgs_cons (sg_name sc.nd) (sgs_cons (sg_name sc.nd) (sgs_cons (sg_name sc.nd) sgs_nil)))) (sss_wp (ws := [4, 5, 6, 7, 8, 9, 10, 11]) (ss_one (ss_forW (ws := [7, 8, 9, 10, 11]) (passes_of rfl) rfl (si_seq (sv 3)) (sg_tup rfl (sgs_cons (sg_name sc.nd) (sgs_cons (sg_name sc.nd) (sgs_cons (sg_name sc.nd) sgs_nil)))) (sss_wp (ws := [7, 8, 9, 10, 11]) (ss_one (ss_if (st_cmp (op_eqM hr.un) (sv 7) (sv 5) rfl) (ss_one (ss_forW (ws := [7, 10, 11]) (passes_of rfl) rfl (si_seq (sn_call (ok__law_jobs g) (hr.mono (by decide)) (takes_of rfl rfl rfl rfl) rfl g.g__law_jobs g.F__law_jobs.kp (b__law_jobs_ g) (sa_cons (sn_ix (sv 0) sn_int) sa_nil))) (sg_name sc.nd) (sss_wp (ws := [7, 10, 11]) (ss_one (ss_if (st_cmp (Mini.op_inD hr.un rfl) (sn_tup (sa_cons (sv 8) (sa_cons (sv 10) sa_nil))) (sv 1) rfl) (ss_cons (ss_set sc.nd (sn_bin op_plusM (sn_bin op_plusM (sv 6) (sv 9)) (sn_ixD hr.un rfl (sv 1) (sn_tup (sa_cons (sv 8) (sa_cons (sv 10) sa_nil))))))
    (ss_one (ss_asg (sn_B (call_min2M rfl) rfl g.n_min (sa_cons (sv 11) (sa_cons (sn_dm F.slot_dict_get F.type_dict_get rfl (mt_get2 hr.un rfl) (sv 2) (sa_cons (sn_tup (sa_cons (sv 4) (sa_cons (sv 10) sa_nil))) (sa_cons (sv 11) sa_nil))) sa_nil))) (sg_ixD hr.un rfl (sv 2) (sn_tup (sa_cons (sv 4) (sa_cons (sv 10) sa_nil))))))) ss_nil))))) ss_nil)))))))
    (ss_one (ss_ret (sv 2)))))
theorem sc__law_thin : FnScope (["plan", "wait", "rows", "kept"] : List Str) ["plan"] (defScope (top 45)) := ⟨rfl, rfl, rfl, by decide +kernel, rfl, by decide +kernel, by decide +kernel⟩
theorem b__law_thin_ (g : G K mg) : Binds K g.d__law_thin ["plan"] [] := g.F__law_thin.bindsN fun _ _ _ _ _ _ us hl => match us, hl with | [_], _ => rfl
theorem ok__law_thin (g : G K mg) : FnG (Ly w g) P w K mg base 3 g.a__law_thin g.d__law_thin ["plan"] f__law_thin :=
  funOk g.F__law_thin sc__law_thin rfl rfl mdF_ok mdD_okx fun cdv hid A outer s H E hr => by
    have sc := sc__law_thin
    exact (ss_cons (ss_par sc.nd (sa_cons (sn_call (ok__law_short_rows g) (hr.mono (by decide)) (takes_of rfl rfl rfl rfl) rfl g.g__law_short_rows g.F__law_short_rows.kp (b__law_short_rows_ g) (sa_cons (sv 0) (sa_cons (sn_call (ok__law_gaps g) (hr.mono (by decide)) (takes_of rfl rfl rfl rfl) rfl g.g__law_gaps g.F__law_gaps.kp (b__law_gaps_ g) (sa_cons (sv 0) sa_nil)) sa_nil))) (sa_cons (sn_lst sa_nil) sa_nil)))
    (ss_cons (ss_forW (ws := [1]) (passes_of rfl) rfl (si_seq (sn_ix (sv 0) sn_int)) (sg_name sc.nd) (sss_wp (ws := [1]) (ss_one (ss_set sc.nd (sn_bin op_plusM (sv 3) (sn_bin op_mulM2 (sn_lst (sa_cons (sv 1) sa_nil)) (sn_T call_intM rfl g.n_int (sa_cons (sn_cmp op_gtM (sn_dm F.slot_dict_get F.type_dict_get rfl (mt_get2 hr.un rfl) (sv 2) (sa_cons (sn_tup (sa_cons (sn_ix (sv 1) sn_int) (sa_cons (sn_ix (sv 1) sn_int) sa_nil))) (sa_cons (sn_bin op_plusM (sn_ix (sv 1) sn_int) sn_int) sa_nil))) (sn_ix (sv 1) sn_int) rfl) sa_nil))))))))
    (ss_one (ss_ret (sn_tup (sa_cons (sn_ix (sv 0) sn_int) (sa_cons (sn_T call_tupleM rfl g.n_tuple (sa_cons (sv 3) sa_nil)) sa_nil)))))))
theorem sc_is_ascending : FnScope (["waits"] : List Str) ["waits"] (defScope (top 9)) := ⟨rfl, rfl, rfl, by decide +kernel, rfl, by decide +kernel, by decide +kernel⟩
theorem b_is_ascending_ (g : G K mg) : Binds K g.d_is_ascending ["waits"] [] := g.F_is_ascending.bindsN fun _ _ _ _ _ _ us hl => match us, hl with | [_], _ => rfl
theorem ok_is_ascending (g : G K mg) : FnG (Ly w g) P w K mg base 1 g.a_is_ascending g.d_is_ascending ["waits"] f_is_ascending :=
  funOk g.F_is_ascending sc_is_ascending rfl rfl mdF_ok mdD_okx fun cdv hid A outer s H E hr => by
    have sc := sc_is_ascending
    exact (ss_one (ss_ret (sn_cmp (op_eqM hr.un) (sn_T call_listM rfl g.n_list (sa_cons (sv 0) sa_nil)) (sn_B (call_sortSetM rfl hr.un rfl) rfl g.n_sorted (sa_cons (sn_T (call_setM rfl hr.un rfl) rfl g.n_set (sa_cons (sv 0) sa_nil)) sa_nil)) rfl)))
theorem sc_is_integer : FnScope (["value"] : List Str) ["value"] (defScope (top 5)) := ⟨rfl, rfl, rfl, by decide +kernel, rfl, by decide +kernel, by decide +kernel⟩
theorem b_is_integer_ (g : G K mg) : Binds K g.d_is_integer ["value"] [] := g.F_is_integer.bindsN fun _ _ _ _ _ _ us hl => match us, hl with | [_], _ => rfl
theorem ok_is_integer (g : G K mg) : FnG (Ly w g) P w K mg base 1 g.a_is_integer g.d_is_integer ["value"] f_is_integer :=
  funOk g.F_is_integer sc_is_integer rfl rfl mdF_ok mdD_okx fun cdv hid A outer s H E hr => by
    have sc := sc_is_integer
    exact (ss_one (ss_ret (sn_and (sn_isi rfl g.n_isinstance rfl g.n_int (sv 0)) (sn_one (sn_not (sn_isi rfl g.n_isinstance rfl g.n_bool (sv 0)))))))
theorem sc_is_between : FnScope (["value", "low", "high"] : List Str) ["value", "low", "high"] (defScope (top 6)) := ⟨rfl, rfl, rfl, by decide +kernel, rfl, by decide +kernel, by decide +kernel⟩
theorem b_is_between_ (g : G K mg) : Binds K g.d_is_between ["value", "low", "high"] [] := g.F_is_between.bindsN fun _ _ _ _ _ _ us hl => match us, hl with | [_, _, _], _ => rfl
theorem ok_is_between (g : G K mg) : FnG (Ly w g) P w K mg base 2 g.a_is_between g.d_is_between ["value", "low", "high"] f_is_between :=
  funOk g.F_is_between sc_is_between rfl rfl mdF_ok mdD_okx fun cdv hid A outer s H E hr => by
    have sc := sc_is_between
    exact (ss_one (ss_ret (sn_and (sn_call (ok_is_integer g) (hr.mono (by decide)) (takes_of rfl rfl rfl rfl) rfl g.g_is_integer g.F_is_integer.kp (b_is_integer_ g) (sa_cons (sv 0) sa_nil)) (sn_one (sn_chain op_leM op_leM (sv 1) (sv 0) (sv 2))))))
theorem sc_are_endless_sizes : FnScope (["value", "size"] : List Str) ["value"] (defScope (top 18)) := ⟨rfl, rfl, rfl, by decide +kernel, rfl, by decide +kernel, by decide +kernel⟩
theorem b_are_endless_sizes_ (g : G K mg) : Binds K g.d_are_endless_sizes ["value"] [] := g.F_are_endless_sizes.bindsN fun _ _ _ _ _ _ us hl => match us, hl with | [_], _ => rfl
theorem ok_are_endless_sizes (g : G K mg) : FnG (Ly w g) P w K mg base 3 g.a_are_endless_sizes g.d_are_endless_sizes ["value"] f_are_endless_sizes :=
  funOk g.F_are_endless_sizes sc_are_endless_sizes rfl rfl mdF_ok mdD_okx fun cdv hid A outer s H E hr => by
    have sc := sc_are_endless_sizes
    exact (ss_cons (ss_if (sw_st (sw_or (st_not (st_val (sn_isi rfl g.n_isinstance rfl g.n_tuple (sv 0)))) (sw_or1 (st_not (st_chain op_leM op_leM sn_int (sn_B call_lenM rfl g.n_len (sa_cons (sv 0) sa_nil)) sn_int))))) (ss_one (ss_ret sn_bl)) ss_nil)
    (ss_one (ss_ret (sn_B (call_allM rfl) rfl g.n_all (sa_cons (sn_lc (own := [("size", 1)]) rfl sc.nd (si_seq (sv 0)) rfl (fun _ _ _ _ _ _ => (sgo_name sc.nd)) (fun _ _ _ _ _ _ => sts_nil) (fun _ _ _ _ _ _ => (sn_call (ok_is_between g) (hr.mono (by decide)) takes_no rfl g.g_is_between g.F_is_between.kp (b_is_between_ g) (sa_cons (sv 1) (sa_cons sn_int (sa_cons (sn_gint rfl g.i_GREATEST_SIZE) sa_nil)))))) sa_nil)))))
theorem sc_is_job_in : FnScope (["sizes", "value"] : List Str) ["sizes", "value"] (defScope (top 8)) := ⟨rfl, rfl, rfl, by decide +kernel, rfl, by decide +kernel, by decide +kernel⟩
theorem b_is_job_in_ (g : G K mg) : Binds K g.d_is_job_in ["sizes", "value"] [] := g.F_is_job_in.bindsN fun _ _ _ _ _ _ us hl => match us, hl with | [_, _], _ => rfl
theorem ok_is_job_in (g : G K mg) : FnG (Ly w g) P w K mg base 3 g.a_is_job_in g.d_is_job_in ["sizes", "value"] f_is_job_in :=
  funOk g.F_is_job_in sc_is_job_in rfl rfl mdF_ok mdD_okx fun cdv hid A outer s H E hr => by
    have sc := sc_is_job_in
    exact (ss_cons (ss_if (sw_st (sw_or (st_not (st_val (sn_isi rfl g.n_isinstance rfl g.n_tuple (sv 1)))) (sw_or (st_cmp (op_neM hr.un) (sn_B call_lenM rfl g.n_len (sa_cons (sv 1) sa_nil)) sn_int rfl) (sw_or1 (st_not (st_val (sn_call (ok_is_between g) (hr.mono (by decide)) (takes_of rfl rfl rfl rfl) rfl g.g_is_between g.F_is_between.kp (b_is_between_ g) (sa_cons (sn_ix (sv 1) sn_int) (sa_cons sn_int (sa_cons (sn_bin op_subM (sn_B call_lenM rfl g.n_len (sa_cons (sv 0) sa_nil)) sn_int) sa_nil)))))))))) (ss_one (ss_ret sn_bl)) ss_nil)
    (ss_one (ss_ret (sn_call (ok_is_between g) (hr.mono (by decide)) (takes_of rfl rfl rfl rfl) rfl g.g_is_between g.F_is_between.kp (b_is_between_ g) (sa_cons (sn_ix (sv 1) sn_int) (sa_cons sn_int (sa_cons (sn_bin op_subM (sn_ix (sv 0) (sn_ix (sv 1) sn_int)) sn_int) sa_nil)))))))
theorem sc_is_linked_wait : FnScope (["sizes", "value"] : List Str) ["sizes", "value"] (defScope (top 19)) := ⟨rfl, rfl, rfl, by decide +kernel, rfl, by decide +kernel, by decide +kernel⟩
theorem b_is_linked_wait_ (g : G K mg) : Binds K g.d_is_linked_wait ["sizes", "value"] [] := g.F_is_linked_wait.bindsN fun _ _ _ _ _ _ us hl => match us, hl with | [_, _], _ => rfl
theorem ok_is_linked_wait (g : G K mg) : FnG (Ly w g) P w K mg base 4 g.a_is_linked_wait g.d_is_linked_wait ["sizes", "value"] f_is_linked_wait :=
  funOk g.F_is_linked_wait sc_is_linked_wait rfl rfl mdF_ok mdD_okx fun cdv hid A outer s H E hr => by
    have sc := sc_is_linked_wait
    exact (ss_cons (ss_if (sw_st (sw_or (st_not (st_val (sn_isi rfl g.n_isinstance rfl g.n_tuple (sv 1)))) (sw_or (st_cmp (op_neM hr.un) (sn_B call_lenM rfl g.n_len (sa_cons (sv 1) sa_nil)) sn_int rfl) (sw_or1 (st_not (st_val (sn_call (ok_is_job_in g) (hr.mono (by decide)) (takes_of rfl rfl rfl rfl) rfl g.g_is_job_in g.F_is_job_in.kp (b_is_job_in_ g) (sa_cons (sv 0) (sa_cons (sn_ix (sv 1) sn_int) sa_nil))))))))) (ss_one (ss_ret sn_bl)) ss_nil)
    (ss_cons (ss_if (sw_st (sw_or (st_not (st_val (sn_call (ok_is_job_in g) (hr.mono (by decide)) (takes_of rfl rfl rfl rfl) rfl g.g_is_job_in g.F_is_job_in.kp (b_is_job_in_ g) (sa_cons (sv 0) (sa_cons (sn_ix (sv 1) sn_int) sa_nil))))) (sw_or1 (st_cmp (op_eqM hr.un) (sn_ix (sn_ix (sv 1) sn_int) sn_int) (sn_ix (sn_ix (sv 1) sn_int) sn_int) rfl)))) (ss_one (ss_ret sn_bl)) ss_nil)
    (ss_one (ss_ret (sn_call (ok_is_between g) (hr.mono (by decide)) (takes_of rfl rfl rfl rfl) rfl g.g_is_between g.F_is_between.kp (b_is_between_ g) (sa_cons (sn_ix (sv 1) sn_int) (sa_cons sn_int (sa_cons (sn_gint rfl g.i_GREATEST_DISTANCE) sa_nil))))))))
theorem sc_is_endless_plan : FnScope (["value", "wait"] : List Str) ["value"] (defScope (top 20)) := ⟨rfl, rfl, rfl, by decide +kernel, rfl, by decide +kernel, by decide +kernel⟩
theorem b_is_endless_plan_ (g : G K mg) : Binds K g.d_is_endless_plan ["value"] [] := g.F_is_endless_plan.bindsN fun _ _ _ _ _ _ us hl => match us, hl with | [_], _ => rfl
theorem ok_is_endless_plan (g : G K mg) : FnG (Ly w g) P w K mg base 5 g.a_is_endless_plan g.d_is_endless_plan ["value"] f_is_endless_plan :=
  funOk g.F_is_endless_plan sc_is_endless_plan rfl rfl mdF_ok mdD_okx fun cdv hid A outer s H E hr => by
    have sc := sc_is_endless_plan
    exact (ss_cons (ss_if (sw_st (sw_or (st_not (st_val (sn_isi rfl g.n_isinstance rfl g.n_tuple (sv 0)))) (sw_or (st_cmp (op_neM hr.un) (sn_B call_lenM rfl g.n_len (sa_cons (sv 0) sa_nil)) sn_int rfl) (sw_or1 (st_not (st_val (sn_call (ok_are_endless_sizes g) (hr.mono (by decide)) (takes_of rfl rfl rfl rfl) rfl g.g_are_endless_sizes g.F_are_endless_sizes.kp (b_are_endless_sizes_ g) (sa_cons (sn_ix (sv 0) sn_int) sa_nil)))))))) (ss_one (ss_ret sn_bl)) ss_nil)
    (ss_cons (ss_if (sw_st (sw_or (st_not (st_val (sn_isi rfl g.n_isinstance rfl g.n_tuple (sn_ix (sv 0) sn_int)))) (sw_or1 (st_cmp op_gtM (sn_B call_lenM rfl g.n_len (sa_cons (sn_ix (sv 0) sn_int) sa_nil)) (sn_gint rfl g.i_MOST_LINKED) rfl)))) (ss_one (ss_ret sn_bl)) ss_nil)
    (ss_one (ss_ret (sn_and (sn_B (call_allM rfl) rfl g.n_all (sa_cons (sn_lc (own := [("wait", 1)]) rfl sc.nd (si_seq (sn_ix (sv 0) sn_int)) rfl (fun _ _ _ _ _ _ => (sgo_name sc.nd)) (fun _ _ _ _ _ _ => sts_nil) (fun _ _ _ _ _ _ => (sn_call (ok_is_linked_wait g) (hr.mono (by decide)) takes_no rfl g.g_is_linked_wait g.F_is_linked_wait.kp (b_is_linked_wait_ g) (sa_cons (sn_ix (sv 0) sn_int) (sa_cons (sv 1) sa_nil))))) sa_nil)) (sn_one (sn_call (ok_is_ascending g) (hr.mono (by decide)) (takes_of rfl rfl rfl rfl) rfl g.g_is_ascending g.F_is_ascending.kp (b_is_ascending_ g) (sa_cons (sn_ix (sv 0) sn_int) sa_nil))))))))
theorem sc_require_endless : FnScope (["value"] : List Str) ["value"] (defScope (top 23)) := ⟨rfl, rfl, rfl, by decide +kernel, rfl, by decide +kernel, by decide +kernel⟩
theorem b_require_endless_ (g : G K mg) : Binds K g.d_require_endless ["value"] [] := g.F_require_endless.bindsN fun _ _ _ _ _ _ us hl => match us, hl with | [_], _ => rfl
theorem ok_require_endless (g : G K mg) : FnG (Ly w g) P w K mg base 6 g.a_require_endless g.d_require_endless ["value"] f_require_endless :=
  funOk g.F_require_endless sc_require_endless rfl rfl mdF_ok mdD_okx fun cdv hid A outer s H E hr => by
    have sc := sc_require_endless
    exact (ss_one (ss_if (st_not (st_val (sn_call (ok_is_endless_plan g) (hr.mono (by decide)) (takes_of rfl rfl rfl rfl) rfl g.g_is_endless_plan g.F_is_endless_plan.kp (b_is_endless_plan_ g) (sa_cons (sv 0) sa_nil)))) (ss_one ss_no) ss_nil))
theorem sc_list_jobs : FnScope (["plan", "place", "queue", "size"] : List Str) ["plan"] (defScope (top 10)) := ⟨rfl, rfl, rfl, by decide +kernel, rfl, by decide +kernel, by decide +kernel⟩
theorem b_list_jobs_ (g : G K mg) : Binds K g.d_list_jobs ["plan"] [] := g.F_list_jobs.bindsN fun _ _ _ _ _ _ us hl => match us, hl with | [_], _ => rfl
theorem ok_list_jobs (g : G K mg) : FnG (Ly w g) P w K mg base 1 g.a_list_jobs g.d_list_jobs ["plan"] f_list_jobs :=
  funOk g.F_list_jobs sc_list_jobs rfl rfl mdF_ok mdD_okx fun cdv hid A outer s H E hr => by
    have sc := sc_list_jobs
    exact (ss_one (ss_ret (sn_lc2 (own := [("queue", 2), ("size", 3), ("place", 1)]) (vs1 := [1]) rfl sc.nd (si_enum rfl g.n_enumerate (sa_cons (sn_ix (sv 0) sn_int) sa_nil)) rfl (by decide) (fun _ _ _ _ _ _ => (sgo_tup rfl (sgso_cons (sgo_name sc.nd) (sgso_cons (sgo_name sc.nd) sgso_nil)))) (fun _ _ _ _ _ _ => sts_nil) (fun _ _ _ _ _ _ hD => (siu_rng1 rfl g.n_range (sa_cons (sv 3) sa_nil))) (fun _ _ _ _ _ _ => (sgo_name sc.nd)) (fun _ _ _ _ _ _ => sts_nil) (fun _ _ _ _ _ _ => (sn_tup (sa_cons (sv 2) (sa_cons (sv 1) sa_nil)))))))
theorem sc_find_links : FnScope (["plan", "found", "queue", "size", "place"] : List Str) ["plan"] (defScope (top 21)) := ⟨rfl, rfl, rfl, by decide +kernel, rfl, by decide +kernel, by decide +kernel⟩
theorem b_find_links_ (g : G K mg) : Binds K g.d_find_links ["plan"] [] := g.F_find_links.bindsN fun _ _ _ _ _ _ us hl => match us, hl with | [_], _ => rfl
theorem ok_find_links (g : G K mg) : FnG (Ly w g) P w K mg base 1 g.a_find_links g.d_find_links ["plan"] f_find_links :=
  funOk g.F_find_links sc_find_links rfl rfl mdC_ok mdD_okx fun cdv hid A outer s H E hr => by
    have sc := sc_find_links
    exact (ss_cons (ss_set sc.nd (sn_T call_listMC rfl g.n_list (sa_cons (sn_ix (sv 0) sn_int) sa_nil)))
    (ss_cons (ss_for (passes_of rfl) rfl (si_enum rfl g.n_enumerate (sa_cons (sn_ix (sv 0) sn_int) sa_nil)) (sg_tup rfl (sgs_cons (sg_name sc.nd) (sgs_cons (sg_name sc.nd) sgs_nil))) (ss_cons (ss_expr (sn_mt F.slot_list_extend F.type_list_extend mt_extendM (sv 1) (sa_cons (sn_lc (own := [("place", 4)]) rfl sc.nd (si_rng1 rfl g.n_range (sa_cons (sn_bin op_subM (sv 3) sn_int) sa_nil)) rfl (fun _ _ _ _ _ _ => (sgo_name sc.nd)) (fun _ _ _ _ _ _ => sts_nil) (fun _ _ _ _ _ _ => (sn_tup (sa_cons (sn_tup (sa_cons (sv 2) (sa_cons (sv 4) sa_nil))) (sa_cons (sn_tup (sa_cons (sv 2) (sa_cons (sn_bin op_plusM (sv 4) sn_int) sa_nil))) (sa_cons sn_int sa_nil)))))) sa_nil)))
    (ss_one (ss_expr (sn_mt F.slot_list_append F.type_list_append mt_appendM (sv 1) (sa_cons (sn_tup (sa_cons (sn_tup (sa_cons (sv 2) (sa_cons (sn_bin op_subM (sv 3) sn_int) sa_nil))) (sa_cons (sn_tup (sa_cons (sv 2) (sa_cons sn_int sa_nil))) (sa_cons sn_int sa_nil)))) sa_nil))))))
    (ss_one (ss_ret (sn_B (call_sortMC hr.un) rfl g.n_sorted (sa_cons (sv 1) sa_nil))))))
theorem sc_find_zero : FnScope (["plan", "links", "left", "changed", "kept", "walked", "taken", "link", "job", "one"] : List Str) ["plan"] (defScope (top 22)) := ⟨rfl, rfl, rfl, by decide +kernel, rfl, by decide +kernel, by decide +kernel⟩
theorem b_find_zero_ (g : G K mg) : Binds K g.d_find_zero ["plan"] [] := g.F_find_zero.bindsN fun _ _ _ _ _ _ us hl => match us, hl with | [_], _ => rfl
theorem ok_find_zero (g : G K mg) : FnG (Ly w g) P w K mg base 2 g.a_find_zero g.d_find_zero ["plan"] f_find_zero :=
  funOk g.F_find_zero sc_find_zero rfl rfl mdF_ok mdD_okx fun cdv hid A outer s H E hr => by
    have sc := sc_find_zero
    exact (ss_cons (ss_set sc.nd (sn_lc (own := [("link", 7)]) rfl sc.nd (si_seq (sn_call (ok_find_links g) (hr.mono (by decide)) (takes_of rfl rfl rfl rfl) rfl g.g_find_links g.F_find_links.kp (b_find_links_ g) (sa_cons (sv 0) sa_nil))) rfl (fun _ _ _ _ _ _ => (sgo_name sc.nd)) (fun _ _ _ _ _ _ => (sts_one (st_cmp (op_eqM hr.un) (sn_ix (sv 7) sn_int) sn_int rfl))) (fun _ _ _ _ _ _ => (sv 7))))
    (ss_cons (ss_set sc.nd (sn_call (ok_list_jobs g) (hr.mono (by decide)) (takes_of rfl rfl rfl rfl) rfl g.g_list_jobs g.F_list_jobs.kp (b_list_jobs_ g) (sa_cons (sv 0) sa_nil)))
    (ss_cons (ss_set sc.nd sn_bl)
    (ss_cons (ss_while (passes_of rfl) (st_val (sv 3)) (ss_cons (ss_lc (own := [("job", 8)]) rfl sc.nd rfl (sw_true rfl rfl rfl rfl) (si_seq (sv 2)) rfl (fun _ _ _ _ _ _ => (sgo_name sc.nd)) (fun _ _ _ _ _ _ => (sts_one (st_val (sn_B (call_anyM rfl) rfl g.n_any (sa_cons (sn_lc (own := [("link", 7)]) rfl sc.nd (si_seq (sv 1)) rfl (fun _ _ _ _ _ _ => (sgo_name sc.nd)) (fun _ _ _ _ _ _ => sts_nil) (fun _ _ _ _ _ _ => (sn_and (sn_cmp (op_eqM hr.un) (sn_ix (sv 7) sn_int) (sv 8) rfl) (sn_one (sn_cmp (op_inSeqM hr.un65) (sn_ix (sv 7) sn_int) (sv 2) rfl))))) sa_nil))))) (fun _ _ _ _ _ _ => (sv 8)))
    (ss_one (ss_asg (sn_tup (sa_cons (sn_cmp op_ltM (sn_B call_lenM rfl g.n_len (sa_cons (sv 4) sa_nil)) (sn_B call_lenM rfl g.n_len (sa_cons (sv 2) sa_nil)) rfl) (sa_cons (sv 4) sa_nil))) (sg_tup rfl (sgs_cons (sg_name sc.nd) (sgs_cons (sg_name sc.nd) sgs_nil)))))))
    (ss_cons (ss_if (st_cmp (op_eqM hr.un) (sv 2) (sn_lst sa_nil) rfl) (ss_one (ss_ret sn_non)) ss_nil)
    (ss_cons (ss_asg (sn_tup (sa_cons (sn_lstC (sa_cons (sn_ix (sv 2) sn_int) sa_nil)) (sa_cons (sn_lstC sa_nil) sa_nil))) (sg_tup rfl (sgs_cons (sg_name sc.nd) (sgs_cons (sg_name sc.nd) sgs_nil))))
    (ss_cons (ss_while (passes_of rfl) (st_cmp op_ltM (sn_B call_lenM rfl g.n_len (sa_cons (sv 6) sa_nil)) (sn_B call_lenM rfl g.n_len (sa_cons (sv 5) sa_nil)) rfl) (ss_cons (ss_set sc.nd (sn_ix (sn_lc (own := [("one", 9)]) rfl sc.nd (si_seq (sv 1)) rfl (fun _ _ _ _ _ _ => (sgo_name sc.nd)) (fun _ _ _ _ _ _ => (sts_one (sw_st (sw_and (st_cmp (op_eqM hr.un) (sn_ix (sv 9) sn_int) (sn_ix (sv 5) (sn_un un_negM sn_int)) rfl) (sw_and1 (st_cmp (op_inSeqM hr.un65) (sn_ix (sv 9) sn_int) (sv 2) rfl)))))) (fun _ _ _ _ _ _ => (sv 9))) sn_int))
    (ss_cons (ss_expr (sn_mt F.slot_list_append F.type_list_append mt_appendM (sv 6) (sa_cons (sv 7) sa_nil)))
    (ss_one (ss_if (st_cmp (op_notInSeqM hr.un65) (sn_ix (sv 7) sn_int) (sv 5) rfl) (ss_one (ss_expr (sn_mt F.slot_list_append F.type_list_append mt_appendM (sv 5) (sa_cons (sn_ix (sv 7) sn_int) sa_nil)))) ss_nil)))))
    (ss_one (ss_ret (sn_sl sl_M (sv 6) (so_at (sn_mt F.slot_list_index F.type_list_index (mt_indexM hr.un65) (sv 5) (sa_cons (sn_ix (sn_ix (sv 6) (sn_un un_negM sn_int)) sn_int) sa_nil))) so_no))))))))))
theorem sc_require_lasting : FnScope (["value", "circle"] : List Str) ["value"] (defScope (top 24)) := ⟨rfl, rfl, rfl, by decide +kernel, rfl, by decide +kernel, by decide +kernel⟩
theorem b_require_lasting_ (g : G K mg) : Binds K g.d_require_lasting ["value"] [] := g.F_require_lasting.bindsN fun _ _ _ _ _ _ us hl => match us, hl with | [_], _ => rfl
theorem ok_require_lasting (g : G K mg) : FnG (Ly w g) P w K mg base 7 g.a_require_lasting g.d_require_lasting ["value"] f_require_lasting :=
  funOk g.F_require_lasting sc_require_lasting rfl rfl mdF_ok mdD_okx fun cdv hid A outer s H E hr => by
    have sc := sc_require_lasting
    exact (ss_cons (ss_expr (sn_call (ok_require_endless g) (hr.mono (by decide)) (takes_of rfl rfl rfl rfl) rfl g.g_require_endless g.F_require_endless.kp (b_require_endless_ g) (sa_cons (sv 0) sa_nil)))
    (ss_cons (ss_set sc.nd (sn_call (ok_find_zero g) (hr.mono (by decide)) (takes_of rfl rfl rfl rfl) rfl g.g_find_zero g.F_find_zero.kp (b_find_zero_ g) (sa_cons (sv 0) sa_nil)))
    (ss_one (ss_if (st_cmp op_isNotM2 (sv 1) sn_non rfl) (ss_one ss_no) ss_nil))))
theorem sc_Gaps_shorten : FnScope (["self", "first", "second", "distance"] : List Str) ["self", "first", "second", "distance"] (defScope ctop_Gaps_shorten) := ⟨rfl, rfl, rfl, by decide +kernel, rfl, by decide +kernel, by decide +kernel⟩
theorem b_Gaps_shorten_ (g : G K mg) : Binds K g.d_Gaps_shorten ["self", "first", "second", "distance"] [] := g.F_Gaps_shorten.bindsN fun _ _ _ _ _ _ us hl => match us, hl with | [_, _, _, _], _ => rfl
theorem ok_Gaps_shorten (g : G K mg) : FnG (Ly w g) P w K mg base 1 g.a_Gaps_shorten g.d_Gaps_shorten ["self", "first", "second", "distance"] f_Gaps_shorten :=
  funOk g.F_Gaps_shorten sc_Gaps_shorten rfl rfl mdK_ok mdK_okx fun cdv hid A outer s H E hr => by
    have sc := sc_Gaps_shorten
    exact (ss_one (ss_if (st_cmp op_gtM (sn_dm F.slot_dict_get F.type_dict_get rfl (mt_get2 hr.un rfl) (sn_fld (sv 0) g.cl_Gaps g.na_Gaps_shortest nd100 rfl) (sa_cons (sn_tup (sa_cons (sv 1) (sa_cons (sv 2) sa_nil))) (sa_cons (sn_bin op_plusM (sv 3) sn_int) sa_nil))) (sv 3) rfl) (ss_one (ss_asg (sv 3) (sg_ixD hr.un rfl (sn_fld (sv 0) g.cl_Gaps g.na_Gaps_shortest nd100 rfl) (sn_tup (sa_cons (sv 1) (sa_cons (sv 2) sa_nil)))))) ss_nil))
theorem sc_Gaps___init__ : FnScope (["self", "base", "middle", "first", "second", "distance", "job"] : List Str) ["self", "base"] (defScope ctop_Gaps___init__) := ⟨rfl, rfl, rfl, by decide +kernel, rfl, by decide +kernel, by decide +kernel⟩
theorem b_Gaps___init___ (g : G K mg) : Binds K g.d_Gaps___init__ ["self", "base"] [] := g.F_Gaps___init__.bindsN fun _ _ _ _ _ _ us hl => match us, hl with | [_, _], _ => rfl
theorem ok_Gaps___init__ (g : G K mg) : FnG (Ly w g) P w K mg base 2 g.a_Gaps___init__ g.d_Gaps___init__ ["self", "base"] f_Gaps___init__ :=
  funOk g.F_Gaps___init__ sc_Gaps___init__ rfl rfl mdK_ok mdK_okx fun cdv hid A outer s H E hr => by
    have sc := sc_Gaps___init__
    exact (ss_cons (ss_setF (sv 0) (sv 1) g.cl_Gaps g.na_Gaps_base nd100 rfl ln100)
    (ss_cons (ss_setF (sv 0) (sn_call (ok_list_jobs g) (hr.mono (by decide)) (takes_of rfl rfl rfl rfl) rfl g.g_list_jobs g.F_list_jobs.kp (b_list_jobs_ g) (sa_cons (sv 1) sa_nil)) g.cl_Gaps g.na_Gaps_members nd100 rfl ln100)
    (ss_cons (ss_setF (sv 0) (sn_call (ok_find_links g) (hr.mono (by decide)) (takes_of rfl rfl rfl rfl) rfl g.g_find_links g.F_find_links.kp (b_find_links_ g) (sa_cons (sv 1) sa_nil)) g.cl_Gaps g.na_Gaps_links nd100 rfl ln100)
    (ss_cons (ss_setF (sv 0) (sn_dc (own := [("job", 6)]) hr.un rfl rfl sc.nd (si_seq (sn_fld (sv 0) g.cl_Gaps g.na_Gaps_members nd100 rfl)) rfl ⟨fun _ _ _ _ _ _ => (sgo_name sc.nd), fun _ _ _ _ _ _ => sts_nil, fun _ _ _ _ _ _ => (sn_tup (sa_cons (sv 6) (sa_cons (sv 6) sa_nil))), fun _ _ _ _ _ _ => sn_int⟩) g.cl_Gaps g.na_Gaps_shortest nd100 rfl ln100)
    (ss_cons (ss_forW (ws := [1, 2, 3, 4, 5]) (passes_of rfl) rfl (si_seq (sn_fld (sv 0) g.cl_Gaps g.na_Gaps_links nd100 rfl)) (sg_tup rfl (sgs_cons (sg_name sc.nd) (sgs_cons (sg_name sc.nd) (sgs_cons (sg_name sc.nd) sgs_nil)))) (sss_wp (ws := [1, 2, 3, 4, 5]) (ss_one (ss_expr (sn_meth (sv 0) g.cl_Gaps g.me_Gaps_shorten (nfC (c := 100) (m := "shorten") (by decide +kernel)) (ok_Gaps_shorten g) (hr.mono (by decide)) (takes_of rfl rfl rfl rfl) (b_Gaps_shorten_ g) (sa_cons (sv 3) (sa_cons (sv 4) (sa_cons (sv 5) sa_nil))))))))
    (ss_one (ss_forW (ws := [1, 2, 3, 4, 5]) (passes_of rfl) rfl (si_seq (sn_fld (sv 0) g.cl_Gaps g.na_Gaps_members nd100 rfl)) (sg_name sc.nd) (sss_wp (ws := [1, 2, 3, 4, 5]) (ss_one (ss_forW (ws := [1, 3, 4, 5]) (passes_of rfl) rfl (si_seq (sn_fld (sv 0) g.cl_Gaps g.na_Gaps_members nd100 rfl)) (sg_name sc.nd) (sss_wp (ws := [1, 3, 4, 5]) (ss_one (ss_forW (ws := [1, 4, 5]) (passes_of rfl) rfl (si_seq (sn_fld (sv 0) g.cl_Gaps g.na_Gaps_members nd100 rfl)) (sg_name sc.nd) (sss_wp (ws := [1, 4, 5]) (ss_one (ss_if (sw_st (sw_and (st_cmp (Mini.op_inD hr.un rfl) (sn_tup (sa_cons (sv 3) (sa_cons (sv 2) sa_nil))) (sn_fld (sv 0) g.cl_Gaps g.na_Gaps_shortest nd100 rfl) rfl) (sw_and1 (st_cmp (Mini.op_inD hr.un rfl) (sn_tup (sa_cons (sv 2) (sa_cons (sv 4) sa_nil))) (sn_fld (sv 0) g.cl_Gaps g.na_Gaps_shortest nd100 rfl) rfl)))) (ss_one (ss_expr (sn_meth (sv 0) g.cl_Gaps g.me_Gaps_shorten (nfC (c := 100) (m := "shorten") (by decide +kernel)) (ok_Gaps_shorten g) (hr.mono (by decide)) (takes_of rfl rfl rfl rfl) (b_Gaps_shorten_ g) (sa_cons (sv 3) (sa_cons (sv 4) (sa_cons (sn_bin op_plusM (sn_ixD hr.un rfl (sn_fld (sv 0) g.cl_Gaps g.na_Gaps_shortest nd100 rfl) (sn_tup (sa_cons (sv 3) (sa_cons (sv 2) sa_nil)))) (sn_ixD hr.un rfl (sn_fld (sv 0) g.cl_Gaps g.na_Gaps_shortest nd100 rfl) (sn_tup (sa_cons (sv 2) (sa_cons (sv 4) sa_nil))))) sa_nil)))))) ss_nil))))))))))))))))
theorem sc_Gaps_find : FnScope (["self", "first", "second"] : List Str) ["self", "first", "second"] (defScope ctop_Gaps_find) := ⟨rfl, rfl, rfl, by decide +kernel, rfl, by decide +kernel, by decide +kernel⟩
theorem b_Gaps_find_ (g : G K mg) : Binds K g.d_Gaps_find ["self", "first", "second"] [] := g.F_Gaps_find.bindsN fun _ _ _ _ _ _ us hl => match us, hl with | [_, _, _], _ => rfl
theorem ok_Gaps_find (g : G K mg) : FnG (Ly w g) P w K mg base 1 g.a_Gaps_find g.d_Gaps_find ["self", "first", "second"] f_Gaps_find :=
  funOk g.F_Gaps_find sc_Gaps_find rfl rfl mdF_ok mdD_okx fun cdv hid A outer s H E hr => by
    have sc := sc_Gaps_find
    exact (ss_one (ss_ret (sn_dm F.slot_dict_get F.type_dict_get rfl (mt_get1 hr.un rfl) (sn_fld (sv 0) g.cl_Gaps g.na_Gaps_shortest nd100 rfl) (sa_cons (sn_tup (sa_cons (sv 1) (sa_cons (sv 2) sa_nil))) sa_nil))))
theorem sc_is_needed_in : FnScope (["gaps", "wait", "link", "first", "second", "distance", "rest", "least"] : List Str) ["gaps", "wait"] (defScope (top 29)) := ⟨rfl, rfl, rfl, by decide +kernel, rfl, by decide +kernel, by decide +kernel⟩
theorem b_is_needed_in_ (g : G K mg) : Binds K g.d_is_needed_in ["gaps", "wait"] [] := g.F_is_needed_in.bindsN fun _ _ _ _ _ _ us hl => match us, hl with | [_, _], _ => rfl
theorem ok_is_needed_in (g : G K mg) : FnG (Ly w g) P w K mg base 2 g.a_is_needed_in g.d_is_needed_in ["gaps", "wait"] f_is_needed_in :=
  funOk g.F_is_needed_in sc_is_needed_in rfl rfl mdF_ok mdD_okx fun cdv hid A outer s H E hr => by
    have sc := sc_is_needed_in
    exact (ss_cons (ss_asg (sv 1) (sg_tup rfl (sgs_cons (sg_name sc.nd) (sgs_cons (sg_name sc.nd) (sgs_cons (sg_name sc.nd) sgs_nil)))))
    (ss_cons (ss_forW (ws := [1, 2, 6, 7]) (passes_of rfl) rfl (si_seq (sn_fld (sv 0) g.cl_Gaps g.na_Gaps_links nd100 rfl)) (sg_name sc.nd) (sss_wp (ws := [1, 2, 6, 7]) (ss_one (ss_if (st_cmp (op_eqM hr.un) (sn_ix (sv 2) sn_int) (sv 3) rfl) (ss_cons (ss_set sc.nd (sn_meth (sv 0) g.cl_Gaps g.me_Gaps_find (nfC (c := 100) (m := "find") (by decide +kernel)) (ok_Gaps_find g) (hr.mono (by decide)) (takes_of rfl rfl rfl rfl) (b_Gaps_find_ g) (sa_cons (sn_ix (sv 2) sn_int) (sa_cons (sv 4) sa_nil))))
    (ss_cons (ss_set sc.nd (sn_ifE (st_cmp (op_eqM hr.un) (sn_ix (sv 2) sn_int) (sv 4) rfl) sn_int (sv 6)))
    (ss_one (ss_if (sw_st (sw_and (st_cmp op_isNotM2 (sv 7) sn_non rfl) (sw_and1 (st_cmp op_leM (sn_bin op_plusM (sn_ix (sv 2) sn_int) (sv 7)) (sv 5) rfl)))) (ss_one (ss_ret sn_bl)) ss_nil)))) ss_nil))))
    (ss_one (ss_ret sn_bl))))
theorem sc_find_least_endless : FnScope (["plan", "gaps", "wait"] : List Str) ["plan"] (defScope (top 30)) := ⟨rfl, rfl, rfl, by decide +kernel, rfl, by decide +kernel, by decide +kernel⟩
theorem b_find_least_endless_ (g : G K mg) : Binds K g.d_find_least_endless ["plan"] [] := g.F_find_least_endless.bindsN fun _ _ _ _ _ _ us hl => match us, hl with | [_], _ => rfl
theorem ok_find_least_endless (g : G K mg) : FnG (Ly w g) P w K mg base 4 g.a_find_least_endless g.d_find_least_endless ["plan"] f_find_least_endless :=
  funOk g.F_find_least_endless sc_find_least_endless rfl rfl mdF_ok mdD_okx fun cdv hid A outer s H E hr => by
    have sc := sc_find_least_endless
    exact (ss_cons (ss_set sc.nd (sn_newF g.mk_Gaps (ok_Gaps___init__ g) (hr.mono (by decide)) (takes_of rfl rfl rfl rfl) rfl g.x_Gaps (b_Gaps___init___ g) (sa_cons (sv 0) sa_nil)))
    (ss_one (ss_ret (sn_tup (sa_cons (sn_ix (sv 0) sn_int) (sa_cons (sn_T call_tupleM rfl g.n_tuple (sa_cons (sn_lc (own := [("wait", 2)]) rfl sc.nd (si_seq (sn_ix (sv 0) sn_int)) rfl (fun _ _ _ _ _ _ => (sgo_name sc.nd)) (fun _ _ _ _ _ _ => (sts_one (st_val (sn_call (ok_is_needed_in g) (hr.mono (by decide)) takes_no rfl g.g_is_needed_in g.F_is_needed_in.kp (b_is_needed_in_ g) (sa_cons (sv 1) (sa_cons (sv 2) sa_nil)))))) (fun _ _ _ _ _ _ => (sv 2))) sa_nil)) sa_nil))))))
theorem sc_least_endless : FnScope (["plan"] : List Str) ["plan"] (defScope (top 32)) := ⟨rfl, rfl, rfl, by decide +kernel, rfl, by decide +kernel, by decide +kernel⟩
theorem b_least_endless_ (g : G K mg) : Binds K g.d_least_endless ["plan"] [] := g.F_least_endless.bindsN fun _ _ _ _ _ _ us hl => match us, hl with | [_], _ => rfl
theorem ok_least_endless (g : G K mg) : FnG (Ly w g) P w K mg base 8 g.a_least_endless g.d_least_endless ["plan"] f_least_endless :=
  funOk g.F_least_endless sc_least_endless rfl rfl mdF_ok mdD_okx fun cdv hid A outer s H E hr => by
    have sc := sc_least_endless
    exact (ss_cons (ss_expr (sn_call (ok_require_lasting g) (hr.mono (by decide)) (takes_of rfl rfl rfl rfl) rfl g.g_require_lasting g.F_require_lasting.kp (b_require_lasting_ g) (sa_cons (sv 0) sa_nil)))
    (ss_one (ss_ret (sn_call (ok_find_least_endless g) (hr.mono (by decide)) (takes_of rfl rfl rfl rfl) rfl g.g_find_least_endless g.F_find_least_endless.kp (b_find_least_endless_ g) (sa_cons (sv 0) sa_nil)))))
theorem sc_is_wait_of_endless : FnScope (["plan", "value"] : List Str) ["plan", "value"] (defScope (top 28)) := ⟨rfl, rfl, rfl, by decide +kernel, rfl, by decide +kernel, by decide +kernel⟩
theorem b_is_wait_of_endless_ (g : G K mg) : Binds K g.d_is_wait_of_endless ["plan", "value"] [] := g.F_is_wait_of_endless.bindsN fun _ _ _ _ _ _ us hl => match us, hl with | [_, _], _ => rfl
theorem ok_is_wait_of_endless (g : G K mg) : FnG (Ly w g) P w K mg base 5 g.a_is_wait_of_endless g.d_is_wait_of_endless ["plan", "value"] f_is_wait_of_endless :=
  funOk g.F_is_wait_of_endless sc_is_wait_of_endless rfl rfl mdF_ok mdD_okx fun cdv hid A outer s H E hr => by
    have sc := sc_is_wait_of_endless
    exact (ss_one (ss_ret (sn_and (sn_call (ok_is_linked_wait g) (hr.mono (by decide)) (takes_of rfl rfl rfl rfl) rfl g.g_is_linked_wait g.F_is_linked_wait.kp (b_is_linked_wait_ g) (sa_cons (sn_ix (sv 0) sn_int) (sa_cons (sv 1) sa_nil))) (sn_one (sn_cmp (op_inSeqM hr.un65) (sv 1) (sn_ix (sv 0) sn_int) rfl)))))
theorem sc_is_needed_wait : FnScope (["plan", "wait"] : List Str) ["plan", "wait"] (defScope (top 31)) := ⟨rfl, rfl, rfl, by decide +kernel, rfl, by decide +kernel, by decide +kernel⟩
theorem b_is_needed_wait_ (g : G K mg) : Binds K g.d_is_needed_wait ["plan", "wait"] [] := g.F_is_needed_wait.bindsN fun _ _ _ _ _ _ us hl => match us, hl with | [_, _], _ => rfl
theorem ok_is_needed_wait (g : G K mg) : FnG (Ly w g) P w K mg base 8 g.a_is_needed_wait g.d_is_needed_wait ["plan", "wait"] f_is_needed_wait :=
  funOk g.F_is_needed_wait sc_is_needed_wait rfl rfl mdF_ok mdD_okx fun cdv hid A outer s H E hr => by
    have sc := sc_is_needed_wait
    exact (ss_cons (ss_expr (sn_call (ok_require_lasting g) (hr.mono (by decide)) (takes_of rfl rfl rfl rfl) rfl g.g_require_lasting g.F_require_lasting.kp (b_require_lasting_ g) (sa_cons (sv 0) sa_nil)))
    (ss_cons (ss_if (st_not (st_val (sn_call (ok_is_wait_of_endless g) (hr.mono (by decide)) (takes_of rfl rfl rfl rfl) rfl g.g_is_wait_of_endless g.F_is_wait_of_endless.kp (b_is_wait_of_endless_ g) (sa_cons (sv 0) (sa_cons (sv 1) sa_nil))))) (ss_one ss_no) ss_nil)
    (ss_one (ss_ret (sn_call (ok_is_needed_in g) (hr.mono (by decide)) (takes_of rfl rfl rfl rfl) rfl g.g_is_needed_in g.F_is_needed_in.kp (b_is_needed_in_ g) (sa_cons (sn_newF g.mk_Gaps (ok_Gaps___init__ g) (hr.mono (by decide)) (takes_of rfl rfl rfl rfl) rfl g.x_Gaps (b_Gaps___init___ g) (sa_cons (sv 0) sa_nil)) (sa_cons (sv 1) sa_nil)))))))
theorem sc_law : FnScope (["script", "pen", "turn", "plan", "wait", "due", "kept"] : List Str) ["script"] (defScope (top 47)) := ⟨rfl, rfl, rfl, by decide +kernel, rfl, by decide +kernel, by decide +kernel⟩
theorem ok_law (g : G K mg) : FnG (Ly w g) P w K mg base 9 g.a_law g.d_law ["script"] f_law :=
  funOk g.F_law sc_law rfl rfl mdF_ok mdD_okx fun cdv hid A outer s H E hr => by
    have sc := sc_law
    exact (ss_cons (ss_set sc.nd (sn_call (ok__law_open g) (hr.mono (by decide)) (takes_of rfl rfl rfl rfl) rfl g.g__law_open g.F__law_open.kp (b__law_open_ g) (sa_cons (sv 0) sa_nil)))
    (ss_cons (ss_forW (ws := [0, 2, 3, 4, 5, 6]) (passes_of rfl) rfl (si_rng1 rfl g.n_range (sa_cons sn_int sa_nil)) (sg_name sc.nd) (sss_wp (ws := [0, 2, 3, 4, 5, 6]) (ss_cons (ss_set sc.nd (sn_call (ok__law_endless g) (hr.mono (by decide)) (takes_of rfl rfl rfl rfl) rfl g.g__law_endless g.F__law_endless.kp (b__law_endless_ g) (sa_cons (sn_call (ok__law_anew g) (hr.mono (by decide)) (takes_of rfl rfl rfl rfl) rfl g.g__law_anew g.F__law_anew.kp (b__law_anew_ g) (sa_cons (sv 1) sa_nil)) (sa_cons sn_int sa_nil))))
    (ss_cons (ss_set sc.nd (sn_call (ok__law_with_needless g) (hr.mono (by decide)) (takes_of rfl rfl rfl rfl) rfl g.g__law_with_needless g.F__law_with_needless.kp (b__law_with_needless_ g) (sa_cons (sn_call (ok__law_anew g) (hr.mono (by decide)) (takes_of rfl rfl rfl rfl) rfl g.g__law_anew g.F__law_anew.kp (b__law_anew_ g) (sa_cons (sv 1) sa_nil)) (sa_cons (sv 3) sa_nil))))
    (ss_cons (ss_par sc.nd (sa_cons (sn_call (ok__law_thin g) (hr.mono (by decide)) (takes_of rfl rfl rfl rfl) rfl g.g__law_thin g.F__law_thin.kp (b__law_thin_ g) (sa_cons (sv 3) sa_nil)) (sa_cons (sn_B (call_reprM hr.gd hr.un) rfl g.n_repr (sa_cons (sv 3) sa_nil)) sa_nil)))
    (ss_cons (ss_if (sw_st (sw_or (st_cmp (op_neM hr.un) (sn_B (call_reprM hr.gd hr.un) rfl g.n_repr (sa_cons (sn_call (ok_least_endless g) (hr.mono (by decide)) (takes_of rfl rfl rfl rfl) rfl g.g_least_endless g.F_least_endless.kp (b_least_endless_ g) (sa_cons (sv 3) sa_nil)) sa_nil)) (sn_B (call_reprM hr.gd hr.un) rfl g.n_repr (sa_cons (sv 5) sa_nil)) rfl) (sw_or1 (st_cmp (op_neM hr.un) (sn_B (call_reprM hr.gd hr.un) rfl g.n_repr (sa_cons (sn_call (ok_least_endless g) (hr.mono (by decide)) (takes_of rfl rfl rfl rfl) rfl g.g_least_endless g.F_least_endless.kp (b_least_endless_ g) (sa_cons (sv 5) sa_nil)) sa_nil)) (sn_B (call_reprM hr.gd hr.un) rfl g.n_repr (sa_cons (sv 5) sa_nil)) rfl)))) (ss_one (ss_ret sn_bl)) ss_nil)
    (ss_cons (ss_forW (ws := [0, 2, 4]) (passes_of rfl) rfl (si_seq (sn_ix (sv 3) sn_int)) (sg_name sc.nd) (sss_wp (ws := [0, 2, 4]) (ss_one (ss_if (st_cmp (op_neM hr.un) (sn_B (call_reprM hr.gd hr.un) rfl g.n_repr (sa_cons (sn_call (ok_is_needed_wait g) (hr.mono (by decide)) (takes_of rfl rfl rfl rfl) rfl g.g_is_needed_wait g.F_is_needed_wait.kp (b_is_needed_wait_ g) (sa_cons (sv 3) (sa_cons (sv 4) sa_nil))) sa_nil)) (sn_B (call_reprM hr.gd hr.un) rfl g.n_repr (sa_cons (sn_cmp (op_inSeqM hr.un65) (sv 4) (sn_ix (sv 5) sn_int) rfl) sa_nil)) rfl) (ss_one (ss_ret sn_bl)) ss_nil))))
    (ss_one (ss_if (st_cmp (op_neM hr.un) (sn_B (call_reprM hr.gd hr.un) rfl g.n_repr (sa_cons (sv 3) sa_nil)) (sv 6) rfl) (ss_one (ss_ret sn_bl)) ss_nil)))))))))
    (ss_one (ss_ret sn_bl))))
end
end Lw
namespace Lw
abbrev T5 := Int × Int × Int × Int × Int
abbrev J2 := Int × Int
def j1 (t : T5) : J2 := (t.1, t.2.1)
def j2 (t : T5) : J2 := (t.2.2.1, t.2.2.2.1)
def dst (t : T5) : Int := t.2.2.2.2
def row (q : Nat) (s : Int) : List T5 := (List.range (s - 1).toNat).map (fun i : Nat => ((q : Int), (i : Int), (q : Int), (i : Int) + 1, 0)) ++ [((q : Int), s - 1, (q : Int), 0, 1)]
def rows : Nat → List Int → List T5
  | _, [] => []
  | q, s :: ss => row q s ++ rows (q + 1) ss
def mrow (k : Nat) (s : Int) : List (Int × Int) := (List.range s.toNat).map fun i : Nat => ((k : Int), (i : Int))
def mrows : Nat → List Int → List (Int × Int)
  | _, [] => []
  | k, s :: ss => mrow k s ++ mrows (k + 1) ss
structure SOk (ss : List Int) : Prop where
  ne : ss ≠ []
  len : ss.length ≤ 4
  s : ∀ s ∈ ss, 1 ≤ s ∧ s ≤ 4
abbrev sz (ss : List Int) (q : Int) : Int := ss.getD q.toNat 0
def JOk (ss : List Int) (j : J2) : Prop := (0 ≤ j.1 ∧ j.1 < ss.length) ∧ (0 ≤ j.2 ∧ j.2 < sz ss j.1)
structure WOk (ss : List Int) (w : T5) : Prop where
  a : JOk ss (j1 w)
  b : JOk ss (j2 w)
  ne : w.1 ≠ w.2.2.1
  d : 0 ≤ dst w ∧ dst w ≤ 3
theorem SOk.sz {ss : List Int} (h : SOk ss) {q : Int} (h0 : 0 ≤ q) (h1 : q < ss.length) : 1 ≤ sz ss q ∧ sz ss q ≤ 4 := by
  have hl : q.toNat < ss.length := by omega
  unfold Lw.sz
  rw [List.getD_eq_getElem?_getD, List.getElem?_eq_getElem hl]
  exact h.s _ (List.getElem_mem hl)
theorem mem_row {q : Nat} {s : Int} {t : T5} : t ∈ row q s ↔ (∃ i : Nat, (i : Int) + 1 < s ∧ t = ((q : Int), (i : Int), (q : Int), (i : Int) + 1, 0)) ∨ t = ((q : Int), s - 1, (q : Int), 0, 1) := by
  unfold row
  rw [List.mem_append, List.mem_map, List.mem_singleton]
  constructor
  · rintro (⟨i, hi, rfl⟩ | rfl)
    · exact .inl ⟨i, by have := List.mem_range.mp hi; omega, rfl⟩
    · exact .inr rfl
  · rintro (⟨i, hi, rfl⟩ | rfl)
    · exact .inl ⟨i, List.mem_range.mpr (by omega), rfl⟩
    · exact .inr rfl
theorem mem_rows {t : T5} : ∀ {ss : List Int} {k : Nat}, t ∈ rows k ss ↔ ∃ (i : Nat) (s : Int), ss[i]? = some s ∧ t ∈ row (k + i) s
  | [], k => by simp [rows]
  | s :: ss, k => by
    rw [rows, List.mem_append, mem_rows]
    constructor
    · rintro (h | ⟨i, s', h1, h2⟩)
      · exact ⟨0, s, by simp, by simpa using h⟩
      · exact ⟨i + 1, s', by simpa using h1, by rw [show k + (i + 1) = k + 1 + i by omega]; exact h2⟩
    · rintro ⟨i, s', h1, h2⟩
      cases i with
      | zero => simp at h1; subst h1; exact .inl (by simpa using h2)
      | succ i => exact .inr ⟨i, s', by simpa using h1, by rw [show k + 1 + i = k + (i + 1) by omega]; exact h2⟩
theorem mem_mrows {j : J2} : ∀ {ss : List Int} {k : Nat}, j ∈ mrows k ss ↔ ∃ (i p : Nat) (s : Int), ss[i]? = some s ∧ (p : Int) < s ∧ j = (((k + i : Nat) : Int), (p : Int))
  | [], k => by simp [mrows]
  | s :: ss, k => by
    rw [mrows, List.mem_append, mem_mrows]
    unfold mrow
    rw [List.mem_map]
    constructor
    · rintro (⟨p, hp, rfl⟩ | ⟨i, p, s', h1, h2, rfl⟩)
      · exact ⟨0, p, s, by simp, by have := List.mem_range.mp hp; omega, by simp⟩
      · exact ⟨i + 1, p, s', by simpa using h1, h2, by rw [show k + (i + 1) = k + 1 + i by omega]⟩
    · rintro ⟨i, p, s', h1, h2, rfl⟩
      cases i with
      | zero => simp at h1; subst h1; exact .inl ⟨p, List.mem_range.mpr (by omega), by simp⟩
      | succ i => exact .inr ⟨i, p, s', by simpa using h1, h2, by rw [show k + 1 + i = k + (i + 1) by omega]⟩
theorem sz_at {ss : List Int} {i : Nat} {s : Int} (h : ss[i]? = some s) : sz ss (i : Int) = s := by
  unfold sz
  rw [Int.toNat_natCast, List.getD_eq_getElem?_getD, h]
  rfl
theorem at_sz {ss : List Int} {q : Int} (h0 : 0 ≤ q) (h1 : q < ss.length) : ss[q.toNat]? = some (sz ss q) := by
  have hl : q.toNat < ss.length := by omega
  unfold sz
  rw [List.getD_eq_getElem?_getD, List.getElem?_eq_getElem hl]
  rfl
theorem mem_members {ss : List Int} {j : J2} : j ∈ mrows 0 ss ↔ JOk ss j := by
  rw [mem_mrows]
  constructor
  · rintro ⟨i, p, s, h1, h2, rfl⟩
    have hl := (List.getElem?_eq_some_iff.mp h1).1
    refine ⟨⟨by omega, by simp only [Nat.zero_add]; omega⟩, ⟨by simp, ?_⟩⟩
    simp only [Nat.zero_add]
    rw [sz_at h1]; exact h2
  · rintro ⟨⟨h0, h1⟩, h2, h3⟩
    obtain ⟨q, p⟩ := j
    simp only at h0 h1 h2 h3
    refine ⟨q.toNat, p.toNat, _, at_sz h0 h1, by omega, ?_⟩
    rw [Nat.zero_add, Int.toNat_of_nonneg h0, Int.toNat_of_nonneg h2]
theorem mem_rows0 {ss : List Int} {t : T5} (h : t ∈ rows 0 ss) : JOk ss (j1 t) ∧ (j2 t).1 = t.1 ∧ ((t.2.1 + 1 < sz ss t.1 ∧ (j2 t).2 = t.2.1 + 1 ∧ dst t = 0) ∨ (t.2.1 + 1 = sz ss t.1 ∧ (j2 t).2 = 0 ∧ dst t = 1)) ∨ sz ss t.1 ≤ 0 := by
  obtain ⟨i, s, h1, h2⟩ := mem_rows.mp h
  rw [Nat.zero_add] at h2
  have hl := (List.getElem?_eq_some_iff.mp h1).1
  have es := sz_at h1
  rcases mem_row.mp h2 with ⟨p, hp, rfl⟩ | rfl
  · refine .inl ⟨⟨⟨by simp [j1], by simp [j1]; omega⟩, by simp [j1], by simp only [j1]; rw [es]; omega⟩, by simp [j2], .inl ⟨by simp only []; rw [es]; omega, by simp [j2], rfl⟩⟩
  · by_cases z : s ≤ 0
    · right; simp only []; rw [es]; exact z
    · refine .inl ⟨⟨⟨by simp [j1], by simp [j1]; omega⟩, by simp [j1]; omega, by simp only [j1]; rw [es]; omega⟩, by simp [j2], .inr ⟨by simp only []; rw [es]; omega, by simp [j2], rfl⟩⟩
theorem row_link {ss : List Int} {q p : Int} (h : JOk ss (q, p)) (hp : p + 1 < sz ss q) : (q, p, q, p + 1, 0) ∈ rows 0 ss := by
  obtain ⟨⟨h0, h1⟩, h2, h3⟩ := h
  simp only at h0 h1 h2 h3
  refine mem_rows.mpr ⟨q.toNat, _, at_sz h0 h1, mem_row.mpr (.inl ⟨p.toNat, by omega, ?_⟩)⟩
  rw [Nat.zero_add, Int.toNat_of_nonneg h0, Int.toNat_of_nonneg h2]
def RankOf (ts : List T5) (rank : J2 → Nat) : Prop := ∀ t ∈ ts, dst t = 0 → rank (j1 t) < rank (j2 t)
def Sound (ts : List T5) : Prop := ∃ rank : J2 → Nat, RankOf ts rank
theorem Sound.mono {ts us : List T5} (h : Sound ts) (hs : ∀ t ∈ us, t ∈ ts) : Sound us := let ⟨r, hr⟩ := h; ⟨r, fun t ht => hr t (hs t ht)⟩
theorem sound_pos {w : T5} {ts : List T5} (h : Sound ts) (hw : dst w ≠ 0) : Sound (w :: ts) := by
  obtain ⟨r, hr⟩ := h
  refine ⟨r, fun t ht h0 => ?_⟩
  rcases List.mem_cons.mp ht with rfl | ht
  · exact absurd h0 hw
  · exact hr t ht h0
theorem sound_add {w : T5} {ts : List T5} (h : Sound ts) (S : J2 → Prop) (hS : ∀ t ∈ ts, dst t = 0 → S (j1 t) → S (j2 t)) (h2 : S (j2 w)) (h1 : ¬ S (j1 w)) : Sound (w :: ts) := by
  obtain ⟨r, hr⟩ := h
  refine ⟨fun j => r j + @ite Nat (S j) (Classical.propDecidable _) (r (j1 w) + 1) 0, fun t ht h0 => ?_⟩
  rcases List.mem_cons.mp ht with rfl | ht
  · show r (j1 t) + _ < r (j2 t) + _
    rw [if_neg h1, if_pos h2]; omega
  · show r (j1 t) + _ < r (j2 t) + _
    have a := hr t ht h0
    by_cases z : S (j1 t)
    · rw [if_pos z, if_pos (hS t ht h0 z)]; omega
    · rw [if_neg z]; omega
theorem sound_rows (ss : List Int) (hs : ∀ s ∈ ss, 1 ≤ s ∧ s ≤ 4) : Sound (rows 0 ss) := by
  refine ⟨fun j => j.2.toNat, fun t ht h0 => ?_⟩
  rcases mem_rows0 ht with ⟨a, b, c⟩ | z
  · rcases c with ⟨c1, c2, _⟩ | ⟨_, _, c3⟩
    · have := a.2.1
      simp only [j1] at this ⊢
      rw [c2]; omega
    · rw [h0] at c3; cases c3
  · obtain ⟨i, s, h1, h2⟩ := mem_rows.mp ht
    have := hs s (List.mem_of_getElem? h1)
    have es := sz_at h1
    rw [Nat.zero_add] at h2
    rcases mem_row.mp h2 with ⟨p, hp, rfl⟩ | rfl
    · simp only [] at z; rw [es] at z; omega
    · simp only [] at z; rw [es] at z; omega
theorem sound_none {ts : List T5} (h : Sound ts) {left : List J2} (hl : ∀ j ∈ left, ∃ t ∈ ts, dst t = 0 ∧ j1 t = j ∧ j2 t ∈ left) : left = [] := by
  obtain ⟨r, hr⟩ := h
  cases left with
  | nil => rfl
  | cons j0 l =>
    exfalso
    have up : ∀ n : Nat, ∃ j ∈ j0 :: l, n ≤ r j := by
      intro n
      induction n with
      | zero => exact ⟨j0, List.mem_cons_self, Nat.zero_le _⟩
      | succ n ih =>
        obtain ⟨j, hj, hn⟩ := ih
        obtain ⟨t, ht, h0, e1, e2⟩ := hl j hj
        exact ⟨j2 t, e2, by have := hr t ht h0; rw [e1] at this; omega⟩
    have bd : ∀ l : List J2, ∃ B, ∀ j ∈ l, r j ≤ B := by
      intro l
      induction l with
      | nil => exact ⟨0, fun _ h => nomatch h⟩
      | cons a l ih =>
        obtain ⟨B, hB⟩ := ih
        refine ⟨max (r a) B, fun j hj => ?_⟩
        rcases List.mem_cons.mp hj with rfl | hj
        · omega
        · have := hB j hj; omega
    obtain ⟨B, hB⟩ := bd (j0 :: l)
    obtain ⟨j, hj, hn⟩ := up (B + 1)
    have := hB j hj
    omega
def fin (ss ns : List Int) (j : J2) : Int := (sz ns j.1 + sz ss j.1 - 1 - j.2) / sz ss j.1
end Lw
namespace Lw
abbrev P2 := J2 × J2
abbrev GF := P2 → Option Int
def relx (G : GF) (p : P2) (d : Int) : GF := fun x => if x = p then some (match G p with | none => d | some e => min d e) else G x
def pairF (m : J2) (G : GF) (p : P2) : GF := match G (p.1, m), G (m, p.2) with
  | some x, some y => relx G p (x + y)
  | _, _ => G
def pairsM (M : List J2) : List P2 := M.flatMap fun a => M.map fun b => (a, b)
def midF (M : List J2) (G : GF) (m : J2) : GF := (pairsM M).foldl (pairF m) G
def G0 (M : List J2) : GF := fun p => if p.1 = p.2 ∧ p.1 ∈ M then some 0 else none
def lnkF (L : List T5) (G : GF) : GF := L.foldl (fun G w => relx G (j1 w, j2 w) (dst w)) G
def fwF (M : List J2) (L : List T5) : GF := M.foldl (midF M) (lnkF L (G0 M))
inductive Row (L : List T5) : J2 → J2 → Int → Prop
  | nil (a : J2) : Row L a a 0
  | cons {w : T5} {b : J2} {d : Int} : w ∈ L → Row L (j2 w) b d → Row L (j1 w) b (dst w + d)
inductive Via (L : List T5) (S : List J2) : J2 → J2 → Int → Prop
  | one {w : T5} : w ∈ L → Via L S (j1 w) (j2 w) (dst w)
  | cons {w : T5} {b : J2} {d : Int} : w ∈ L → j2 w ∈ S → Via L S (j2 w) b d → Via L S (j1 w) b (dst w + d)
theorem Row.append {L : List T5} {a b c : J2} {d e : Int} (h : Row L a b d) (k : Row L b c e) : Row L a c (d + e) := by
  induction h with
  | nil a => rw [Int.zero_add]; exact k
  | cons hw _ ih => rw [Int.add_assoc]; exact .cons hw (ih k)
theorem Row.one {L : List T5} {w : T5} (h : w ∈ L) : Row L (j1 w) (j2 w) (dst w) := by
  have := Row.cons h (.nil (j2 w))
  rwa [Int.add_zero] at this
section
variable {M : List J2} {L : List T5}
structure LkOk (M : List J2) (L : List T5) : Prop where
  a : ∀ w ∈ L, j1 w ∈ M
  b : ∀ w ∈ L, j2 w ∈ M
  d : ∀ w ∈ L, 0 ≤ dst w
theorem Row.nn (h : LkOk M L) {a b : J2} {d : Int} (r : Row L a b d) : 0 ≤ d := by
  induction r with
  | nil => exact Int.le_refl _
  | cons hw _ ih => have := h.d _ hw; omega
theorem Via.nn (h : LkOk M L) {S : List J2} {a b : J2} {d : Int} (r : Via L S a b d) : 0 ≤ d := by
  induction r with
  | one hw => exact h.d _ hw
  | cons hw _ _ ih => have := h.d _ hw; omega
theorem Via.ends (h : LkOk M L) {S : List J2} {a b : J2} {d : Int} (r : Via L S a b d) : a ∈ M ∧ b ∈ M := by
  induction r with
  | one hw => exact ⟨h.a _ hw, h.b _ hw⟩
  | cons hw _ _ ih => exact ⟨h.a _ hw, ih.2⟩
theorem Row.via (h : LkOk M L) {a b : J2} {d : Int} (r : Row L a b d) : (a = b ∧ d = 0) ∨ Via L M a b d := by
  induction r with
  | nil => exact .inl ⟨rfl, rfl⟩
  | cons hw _ ih =>
    rcases ih with ⟨rfl, rfl⟩ | v
    · rw [Int.add_zero]; exact .inr (.one hw)
    · exact .inr (.cons hw (h.b _ hw) v)
theorem Via.split (h : LkOk M L) {S : List J2} {m a b : J2} {d : Int} (r : Via L (S ++ [m]) a b d) : Via L S a b d ∨ ∃ d1 d2, Via L S a m d1 ∧ Via L S m b d2 ∧ d1 + d2 ≤ d := by
  induction r with
  | one hw => exact .inl (.one hw)
  | @cons w b d hw hm _ ih =>
    by_cases e : j2 w = m
    · rw [e] at ih
      refine .inr ?_
      have v1 : Via L S (j1 w) m (dst w) := e ▸ Via.one hw
      rcases ih with v | ⟨d1, d2, u1, u2, hd⟩
      · exact ⟨_, _, v1, v, Int.le_refl _⟩
      · refine ⟨_, _, v1, u2, ?_⟩
        have := u1.nn h
        omega
    · have hs : j2 w ∈ S := by
        rcases List.mem_append.mp hm with z | z
        · exact z
        · exact absurd (List.mem_singleton.mp z) e
      rcases ih with v | ⟨d1, d2, u1, u2, hd⟩
      · exact .inl (.cons hw hs v)
      · exact .inr ⟨_, _, .cons hw hs u1, u2, by omega⟩
def LeG (G' G : GF) : Prop := ∀ p e, G p = some e → ∃ e', G' p = some e' ∧ e' ≤ e
theorem LeG.refl (G : GF) : LeG G G := fun p e h => ⟨e, h, Int.le_refl _⟩
theorem LeG.trans {A B C : GF} (h : LeG A B) (k : LeG B C) : LeG A C := fun p e q => by
  obtain ⟨e1, q1, l1⟩ := k p e q
  obtain ⟨e2, q2, l2⟩ := h p e1 q1
  exact ⟨e2, q2, by omega⟩
theorem relx_at (G : GF) (p : P2) (d : Int) : ∃ e, relx G p d p = some e ∧ e ≤ d := by
  unfold relx
  rw [if_pos rfl]
  cases G p with
  | none => exact ⟨d, rfl, Int.le_refl _⟩
  | some e => exact ⟨min d e, rfl, Int.min_le_left _ _⟩
theorem relx_le (G : GF) (p : P2) (d : Int) : LeG (relx G p d) G := fun x e h => by
  unfold relx
  by_cases hx : x = p
  · subst hx
    rw [if_pos rfl, h]
    exact ⟨_, rfl, Int.min_le_right _ _⟩
  · rw [if_neg hx]
    exact ⟨e, h, Int.le_refl _⟩
theorem pairF_le (m : J2) (G : GF) (p : P2) : LeG (pairF m G p) G := by
  unfold pairF
  split
  · exact relx_le _ _ _
  · exact .refl _
theorem foldF_le (m : J2) : ∀ (ps : List P2) (G : GF), LeG (ps.foldl (pairF m) G) G
  | [], G => .refl G
  | p :: ps, G => (foldF_le m ps (pairF m G p)).trans (pairF_le m G p)
theorem pairF_at {m : J2} {G : GF} {p : P2} {x y : Int} (h1 : G (p.1, m) = some x) (h2 : G (m, p.2) = some y) : ∃ e, pairF m G p p = some e ∧ e ≤ x + y := by
  unfold pairF
  rw [h1, h2]
  exact relx_at _ _ _
theorem foldF_at {m : J2} {p : P2} : ∀ {ps : List P2} {G : GF} {x y : Int}, p ∈ ps → G (p.1, m) = some x → G (m, p.2) = some y → ∃ e, ps.foldl (pairF m) G p = some e ∧ e ≤ x + y
  | q :: ps, G, x, y, h, h1, h2 => by
    rw [List.foldl_cons]
    by_cases e : p = q
    · subst e
      obtain ⟨z, hz, lz⟩ := pairF_at h1 h2
      obtain ⟨z', hz', lz'⟩ := foldF_le m ps _ _ _ hz
      exact ⟨z', hz', by omega⟩
    · have hp : p ∈ ps := (List.mem_cons.mp h).resolve_left e
      obtain ⟨x', hx, lx⟩ := pairF_le m G q _ _ h1
      obtain ⟨y', hy, ly⟩ := pairF_le m G q _ _ h2
      obtain ⟨z, hz, lz⟩ := foldF_at hp hx hy
      exact ⟨z, hz, by omega⟩
theorem mem_pairsM {p : P2} : p ∈ pairsM M ↔ p.1 ∈ M ∧ p.2 ∈ M := by
  unfold pairsM
  rw [List.mem_flatMap]
  constructor
  · rintro ⟨a, ha, h⟩
    obtain ⟨b, hb, rfl⟩ := List.mem_map.mp h
    exact ⟨ha, hb⟩
  · rintro ⟨h1, h2⟩
    exact ⟨p.1, h1, List.mem_map.mpr ⟨p.2, h2, rfl⟩⟩
structure Tab (M : List J2) (L : List T5) (S : List J2) (G : GF) : Prop where
  snd : ∀ a b e, G (a, b) = some e → Row L a b e
  cmp : ∀ a b d, Via L S a b d → ∃ e, G (a, b) = some e ∧ e ≤ d
  dia : ∀ a ∈ M, ∃ e, G (a, a) = some e ∧ e ≤ 0
def SndG (L : List T5) (G : GF) : Prop := ∀ a b e, G (a, b) = some e → Row L a b e
theorem relx_snd {G : GF} (h : SndG L G) {a b : J2} {d : Int} (r : Row L a b d) : SndG L (relx G (a, b) d) := fun x y e q => by
  unfold relx at q
  by_cases hx : (x, y) = (a, b)
  · rw [if_pos hx] at q
    cases hx
    cases hG : G (a, b) with
    | none => rw [hG] at q; cases q; exact r
    | some f =>
      rw [hG] at q
      have q' : min d f = e := Option.some.inj q
      subst q'
      rcases Int.le_total d f with l | l
      · rw [show min d f = d from Int.min_eq_left l]; exact r
      · rw [show min d f = f from Int.min_eq_right l]; exact h _ _ _ hG
  · rw [if_neg hx] at q
    exact h _ _ _ q
theorem pairF_snd {m : J2} {G : GF} (h : SndG L G) (p : P2) : SndG L (pairF m G p) := by
  unfold pairF
  split
  · rename_i x y h1 h2
    exact relx_snd h ((h _ _ _ h1).append (h _ _ _ h2))
  · exact h
theorem foldF_snd {m : J2} : ∀ (ps : List P2) {G : GF}, SndG L G → SndG L (ps.foldl (pairF m) G)
  | [], _, h => h
  | p :: ps, _, h => foldF_snd ps (pairF_snd h p)
theorem Tab.mid (h : LkOk M L) {S : List J2} {G : GF} (t : Tab M L S G) (m : J2) : Tab M L (S ++ [m]) (midF M G m) where
  snd := foldF_snd _ t.snd
  cmp := fun a b d v => by
    rcases v.split h with u | ⟨d1, d2, u1, u2, hd⟩
    · obtain ⟨e, he, le⟩ := t.cmp a b d u
      obtain ⟨e', he', le'⟩ := foldF_le m (pairsM M) G _ _ he
      exact ⟨e', he', by omega⟩
    · obtain ⟨x, hx, lx⟩ := t.cmp _ _ _ u1
      obtain ⟨y, hy, ly⟩ := t.cmp _ _ _ u2
      obtain ⟨e, he, le⟩ := foldF_at (ps := pairsM M) (G := G) (p := (a, b)) (mem_pairsM.mpr ⟨(u1.ends h).1, (u2.ends h).2⟩) hx hy
      exact ⟨e, he, by omega⟩
  dia := fun a ha => by
    obtain ⟨e, he, le⟩ := t.dia a ha
    obtain ⟨e', he', le'⟩ := foldF_le m (pairsM M) G _ _ he
    exact ⟨e', he', by omega⟩
theorem Tab.mids (h : LkOk M L) : ∀ (ms : List J2) {S : List J2} {G : GF}, Tab M L S G → Tab M L (S ++ ms) (ms.foldl (midF M) G)
  | [], S, G, t => by rw [List.append_nil]; exact t
  | m :: ms, S, G, t => by
    have := Tab.mids h ms (t.mid h m)
    rwa [List.append_assoc] at this
theorem lnk_le : ∀ (ws : List T5) (G : GF), LeG (lnkF ws G) G
  | [], G => .refl G
  | w :: ws, G => (lnk_le ws _).trans (relx_le _ _ _)
theorem lnk_snd : ∀ (ws : List T5) {G : GF}, (∀ w ∈ ws, w ∈ L) → SndG L G → SndG L (lnkF ws G)
  | [], _, _, h => h
  | w :: ws, _, hs, h => lnk_snd ws (fun x hx => hs x (List.mem_cons_of_mem _ hx)) (relx_snd h (.one (hs w List.mem_cons_self)))
theorem lnk_at {w : T5} : ∀ {ws : List T5} {G : GF}, w ∈ ws → ∃ e, lnkF ws G (j1 w, j2 w) = some e ∧ e ≤ dst w
  | u :: ws, G, h => by
    show ∃ e, lnkF ws (relx G (j1 u, j2 u) (dst u)) (j1 w, j2 w) = some e ∧ e ≤ dst w
    rcases List.mem_cons.mp h with rfl | h
    · obtain ⟨e, he, le⟩ := relx_at G (j1 w, j2 w) (dst w)
      obtain ⟨e', he', le'⟩ := lnk_le ws _ _ _ he
      exact ⟨e', he', by omega⟩
    · exact lnk_at h
theorem Tab.start (h : LkOk M L) : Tab M L [] (lnkF L (G0 M)) where
  snd := lnk_snd L (fun _ h => h) fun a b e q => by
    unfold G0 at q
    split at q
    · rename_i hc
      cases q
      obtain ⟨rfl, _⟩ : a = b ∧ a ∈ M := hc
      exact .nil a
    · cases q
  cmp := fun a b d v => by
    cases v with
    | one hw => exact lnk_at hw
    | cons _ hm _ => cases hm
  dia := fun a ha => by
    obtain ⟨e, he, le⟩ := lnk_le L (G0 M) (a, a) 0 (if_pos ⟨rfl, ha⟩)
    exact ⟨e, he, le⟩
theorem fwF_tab (h : LkOk M L) : Tab M L M (fwF M L) := by
  have := (Tab.start h).mids h M
  rwa [List.nil_append] at this
theorem fwF_row (h : LkOk M L) {a b : J2} {e : Int} (q : fwF M L (a, b) = some e) : Row L a b e := (fwF_tab h).snd a b e q
theorem fwF_min (h : LkOk M L) {a b : J2} {d : Int} (r : Row L a b d) (ha : a ∈ M) : ∃ e, fwF M L (a, b) = some e ∧ e ≤ d := by
  rcases r.via h with ⟨rfl, rfl⟩ | v
  · exact (fwF_tab h).dia a ha
  · exact (fwF_tab h).cmp a b d v
theorem fwF_nn (h : LkOk M L) {a b : J2} {e : Int} (q : fwF M L (a, b) = some e) : 0 ≤ e := (fwF_row h q).nn h
end
end Lw
namespace Lw
open PySem PySem.Spec PyProof.Rows L2 Mini PySem.W
abbrev prs : List Int := [2147483629, 2147483587, 2147483579, 2147483563, 2147483549, 2147483543, 2147483497, 2147483489, 2147483477, 2147483423, 2147483399, 2147483353, 2147483323]
theorem prs_bd : ∀ p ∈ prs, 0 < p ∧ p < 2147483648 := by decide
theorem pr_at (i : Int) : ∃ p, (0 < p ∧ p < 2147483648) ∧ atI (prs.map MV.int) (i.fmod 13) = some (.int p) := by
  have b := fmod_bd (i := i) (j := 13) (by decide)
  obtain ⟨p, hp, e⟩ := atI_int (ps := prs) b.1 b.2
  exact ⟨p, prs_bd p hp, e⟩
theorem spread_ok {cell at_ : Int} (h1 : 0 ≤ at_) (h2 : at_ < 2 ^ 30) {h : MHp} {Q E : MQ} (k : ∀ v : Int, mdF h.length Q (.int v) h) : f__law_spread [.int cell, .int at_] h Q E := by
  simp only [f__law_spread, b__law_spread, getK, setK, Option.isSome_some, eqM_int, neM_int, kit_ii, kit_bi, kit_ni, kit_si, kit_ti, kit_li, kit_ib, kit_bb, kit_tt, kit_it, kit_bt, kit_nt, kit_st, kit_lt, atI0, atI1, atI2, ixN30, ixN31, ixN32, mFn, startM, mSeq, mIf, mAsg, mRet, mRetN, mDrop, mNext, gN, gT, gsCons, gsNil, gIx, mVar, mInt, mBl, mNon, mStr, mC, mOp1, mOp2, int2, plusM, addM, mulM2, negM, isM, isNotM, isNotM2, isM2, mAug, rg1, rg2, mLstRg, mLstRgC, mTupRg, isNoneM, tV, tNo, tAn, Mini.tOr, mAnd, mOr, mNot, Mini.notM, Bool.not_false, Bool.not_true, Bool.false_eq_true, if_false, if_true, reduceIte, mIfE, aNil, aCons, mTup, mLst, mLstC, mSl, slM, pNo, pAt, mB, mCall, lenM, listM, listMC, tupleM, intM, boolM, ixM, ixV, seqOf, lstOf, Mini.cellOf, mPar, mPar3, mLc, mLcC, mFor, iSeq, Mini.iRng1, Mini.iRng2, Mini.iEnum, Mini.iZip, mIsi, isiM, tyM, mMt, mMt0, appendM, extendM, popM, catF, catF.lstM, mChain, tAll, wipeM, mdK, Prod.mk.injEq, and_assoc, List.map_cons, List.map_nil, List.length_cons, List.length_nil, List.replicate, List.cons_append, List.nil_append, List.getElem?_cons_zero, List.getElem?_cons_succ, List.set_cons_zero, List.set_cons_succ, Option.some.injEq, exists_eq_left', exists_eq_left, true_and, and_true, List.cons.injEq, MV.int.injEq, MV.bl.injEq, MV.tup.injEq, MV.fl.injEq, MV.str.injEq, MV.ref.injEq, Option.bind_some, exists_and_left, exists_const, Nat.sub_self, Nat.reduceSub, Nat.reduceAdd, List.append_nil, List.nil_append, List.length_map, Nat.add_zero, Nat.zero_add]
  refine ⟨cpow (by decide) (by decide) (by decide) (by decide), ?_⟩
  split
  · exact k _
  have b0 := fmod_bd (i := cell) (j := 1000000007) (by decide)
  have b1 := mul_bd b0.1 (Int.le_of_lt b0.2) (b := 2 * at_ + 69069) (B := 2147552717) (by omega) (by omega)
  refine ⟨smallLine (by decide), smallLine (by decide), smallLine (by decide), by decide, cmulL (by decide) (by decide), cmulL (by omega) (by omega), cmulL (by omega) (by omega), cpow (by omega) (by omega) (by decide) (by decide), by decide, ?_⟩
  obtain ⟨p1, hp1, e1⟩ := pr_at at_
  refine ⟨_, e1, modM_ps hp1.1 ?_⟩
  generalize hone : ((cell.fmod 1000000007 * (2 * at_ + 69069) + at_ * 40503 + 977) ^ Int.toNat 3).fmod p1 = one
  have c1 : 0 ≤ one ∧ one < 2147483648 := by
    have b := fmod_bd (i := (cell.fmod 1000000007 * (2 * at_ + 69069) + at_ * 40503 + 977) ^ Int.toNat 3) hp1.1
    rw [hone] at b
    omega
  have b2 := fmod_bd (i := cell) (j := 65537) (by decide)
  have b3 := mul_bd c1.1 (Int.le_of_lt c1.2) (b := at_ + 3) (B := 1073741827) (by omega) (by omega)
  refine ⟨by decide, cmulL (by omega) (by omega), cpow (by omega) (by omega) (by decide) (by decide), by decide, ?_⟩
  obtain ⟨p2, hp2, e2⟩ := pr_at (at_ + 5)
  refine ⟨_, e2, modM_ps hp2.1 ?_⟩
  generalize htwo : ((one * (at_ + 3) + (cell.fmod 65537 + 5)) ^ Int.toNat 5).fmod p2 = two
  have c2 : 0 ≤ two ∧ two < 2147483648 := by
    have b := fmod_bd (i := (one * (at_ + 3) + (cell.fmod 65537 + 5)) ^ Int.toNat 5) hp2.1
    rw [htwo] at b
    omega
  simp only [getK, setK, Option.isSome_some, eqM_int, neM_int, kit_ii, kit_bi, kit_ni, kit_si, kit_ti, kit_li, kit_ib, kit_bb, kit_tt, kit_it, kit_bt, kit_nt, kit_st, kit_lt, atI0, atI1, atI2, ixN30, ixN31, ixN32, mFn, startM, mSeq, mIf, mAsg, mRet, mRetN, mDrop, mNext, gN, gT, gsCons, gsNil, gIx, mVar, mInt, mBl, mNon, mStr, mC, mOp1, mOp2, int2, plusM, addM, mulM2, negM, isM, isNotM, isNotM2, isM2, mAug, rg1, rg2, mLstRg, mLstRgC, mTupRg, isNoneM, tV, tNo, tAn, Mini.tOr, mAnd, mOr, mNot, Mini.notM, Bool.not_false, Bool.not_true, Bool.false_eq_true, if_false, if_true, reduceIte, mIfE, aNil, aCons, mTup, mLst, mLstC, mSl, slM, pNo, pAt, mB, mCall, lenM, listM, listMC, tupleM, intM, boolM, ixM, ixV, seqOf, lstOf, Mini.cellOf, mPar, mPar3, mLc, mLcC, mFor, iSeq, Mini.iRng1, Mini.iRng2, Mini.iEnum, Mini.iZip, mIsi, isiM, tyM, mMt, mMt0, appendM, extendM, popM, catF, catF.lstM, mChain, tAll, wipeM, mdK, Prod.mk.injEq, and_assoc, List.map_cons, List.map_nil, List.length_cons, List.length_nil, List.replicate, List.cons_append, List.nil_append, List.getElem?_cons_zero, List.getElem?_cons_succ, List.set_cons_zero, List.set_cons_succ, Option.some.injEq, exists_eq_left', exists_eq_left, true_and, and_true, List.cons.injEq, MV.int.injEq, MV.bl.injEq, MV.tup.injEq, MV.fl.injEq, MV.str.injEq, MV.ref.injEq, Option.bind_some, exists_and_left, exists_const, Nat.sub_self, Nat.reduceSub, Nat.reduceAdd, List.append_nil, List.nil_append, List.length_map, Nat.add_zero, Nat.zero_add]
  have b4 := fmod_bd (i := one) (j := 1009) (by decide)
  refine ⟨by decide, cpow (by omega) (by omega) (by decide) (by decide), by decide, ?_⟩
  obtain ⟨p3, hp3, e3⟩ := pr_at (at_ + 7)
  refine ⟨_, e3, modM_ps hp3.1 ?_⟩
  exact ⟨cmulR (by decide) (by decide), cmulR (by decide) (by decide), k _⟩
abbrev pen (cs : List Int) (a v : Int) (t : MHp) : MHp := .lst (cs.map .int) :: .lst [.ref 0, .int a, .int v] :: t
def TOk (t : MHp) : Prop := ∀ c ∈ t, ∀ n, c.lo n = true
theorem lo_ints (n : Nat) : ∀ cs : List Int, loAll n (cs.map MV.int) = true
  | [] => rfl
  | c :: cs => by
    rw [List.map_cons]
    simp only [loAll, MV.lo, Bool.true_and]
    exact lo_ints n cs
theorem pen_ok {t : MHp} (ht : TOk t) (cs : List Int) (a v : Int) : oldOk (t.length + 2) (pen cs a v t) = true := by
  unfold oldOk
  rw [List.take_of_length_le (show (pen cs a v t).length ≤ t.length + 2 from Nat.le_refl _), List.all_eq_true]
  intro c hc
  rcases List.mem_cons.mp hc with rfl | hc
  · exact lo_ints _ cs
  · rcases List.mem_cons.mp hc with rfl | hc
    · simp [Cell.lo, loAll, MV.lo]
    · exact ht c hc _
theorem pen_end {t : MHp} (ht : TOk t) {n : Nat} (hn : n = t.length + 2) {cs : List Int} {a v : Int} {Q : MQ} {x : MV} (hx : (frz n (pen cs a v t) 8 x).lo n = true) (q : Q (frz n (pen cs a v t) 8 x) (pen cs a v t)) : mdF n Q x (pen cs a v t) := by
  subst hn
  exact mdF_same rfl (pen_ok ht cs a v) hx q
theorem take_ok {cs : List Int} {a v many : Int} {t : MHp} (ht : TOk t) (ha : 0 ≤ a) (ha2 : a < 2 ^ 30) (hm : 0 < many) (hm2 : many < 2 ^ 30) {Q E : MQ} (k : ∀ r a' v', 0 ≤ r → r < many → a ≤ a' → a' ≤ a + 1 → Q (.int r) (pen cs a' v' t)) :
    f__law_take [.ref 1, .int many] (pen cs a v t) Q E := by
  simp only [f__law_take, b__law_take, getK, setK, Option.isSome_some, eqM_int, neM_int, kit_ii, kit_bi, kit_ni, kit_si, kit_ti, kit_li, kit_ib, kit_bb, kit_tt, kit_it, kit_bt, kit_nt, kit_st, kit_lt, atI0, atI1, atI2, ixN30, ixN31, ixN32, mFn, startM, mSeq, mIf, mAsg, mRet, mRetN, mDrop, mNext, gN, gT, gsCons, gsNil, gIx, mVar, mInt, mBl, mNon, mStr, mC, mOp1, mOp2, int2, plusM, addM, mulM2, negM, isM, isNotM, isNotM2, isM2, mAug, rg1, rg2, mLstRg, mLstRgC, mTupRg, isNoneM, tV, tNo, tAn, Mini.tOr, mAnd, mOr, mNot, Mini.notM, Bool.not_false, Bool.not_true, Bool.false_eq_true, if_false, if_true, reduceIte, mIfE, aNil, aCons, mTup, mLst, mLstC, mSl, slM, pNo, pAt, mB, mCall, lenM, listM, listMC, tupleM, intM, boolM, ixM, ixV, seqOf, lstOf, Mini.cellOf, mPar, mPar3, mLc, mLcC, mFor, iSeq, Mini.iRng1, Mini.iRng2, Mini.iEnum, Mini.iZip, mIsi, isiM, tyM, mMt, mMt0, appendM, extendM, popM, catF, catF.lstM, mChain, tAll, wipeM, mdK, Prod.mk.injEq, and_assoc, List.map_cons, List.map_nil, List.length_cons, List.length_nil, List.replicate, List.cons_append, List.nil_append, List.getElem?_cons_zero, List.getElem?_cons_succ, List.set_cons_zero, List.set_cons_succ, Option.some.injEq, exists_eq_left', exists_eq_left, true_and, and_true, List.cons.injEq, MV.int.injEq, MV.bl.injEq, MV.tup.injEq, MV.fl.injEq, MV.str.injEq, MV.ref.injEq, Option.bind_some, exists_and_left, exists_const, Nat.sub_self, Nat.reduceSub, Nat.reduceAdd, List.append_nil, List.nil_append, List.length_map, Nat.add_zero, Nat.zero_add]
  have fin : ∀ a' v', a ≤ a' → a' ≤ a + 1 → CDivN v' many ∧ mdF (t.length + 1 + 1) Q (.int (v'.fmod many)) (pen cs a' (v'.fdiv many) t) := fun a' v' h1 h2 => by
    have b := fmod_bd (i := v') hm
    exact ⟨⟨by omega, by omega⟩, pen_end ht rfl rfl (k _ _ _ b.1 b.2 h1 h2)⟩
  have fin2 := fun v' => fin (a + 1) v' (by omega) (Int.le_refl _)
  split
  · split
    · rename_i h1 h2
      obtain ⟨x, e1, e2⟩ := atI_at (xs := cs.map MV.int) (i := a) ha (by simpa using h2)
      rw [List.getElem?_map, Option.map_eq_some_iff] at e2
      obtain ⟨c, hc, rfl⟩ := e2
      refine ⟨_, e1, spread_ok ha ha2 fun v' => pen_end ht rfl rfl ?_⟩
      simp only [frz, getK, setK, Option.isSome_some, eqM_int, neM_int, kit_ii, kit_bi, kit_ni, kit_si, kit_ti, kit_li, kit_ib, kit_bb, kit_tt, kit_it, kit_bt, kit_nt, kit_st, kit_lt, atI0, atI1, atI2, ixN30, ixN31, ixN32, mFn, startM, mSeq, mIf, mAsg, mRet, mRetN, mDrop, mNext, gN, gT, gsCons, gsNil, gIx, mVar, mInt, mBl, mNon, mStr, mC, mOp1, mOp2, int2, plusM, addM, mulM2, negM, isM, isNotM, isNotM2, isM2, mAug, rg1, rg2, mLstRg, mLstRgC, mTupRg, isNoneM, tV, tNo, tAn, Mini.tOr, mAnd, mOr, mNot, Mini.notM, Bool.not_false, Bool.not_true, Bool.false_eq_true, if_false, if_true, reduceIte, mIfE, aNil, aCons, mTup, mLst, mLstC, mSl, slM, pNo, pAt, mB, mCall, lenM, listM, listMC, tupleM, intM, boolM, ixM, ixV, seqOf, lstOf, Mini.cellOf, mPar, mPar3, mLc, mLcC, mFor, iSeq, Mini.iRng1, Mini.iRng2, Mini.iEnum, Mini.iZip, mIsi, isiM, tyM, mMt, mMt0, appendM, extendM, popM, catF, catF.lstM, mChain, tAll, wipeM, mdK, Prod.mk.injEq, and_assoc, List.map_cons, List.map_nil, List.length_cons, List.length_nil, List.replicate, List.cons_append, List.nil_append, List.getElem?_cons_zero, List.getElem?_cons_succ, List.set_cons_zero, List.set_cons_succ, Option.some.injEq, exists_eq_left', exists_eq_left, true_and, and_true, List.cons.injEq, MV.int.injEq, MV.bl.injEq, MV.tup.injEq, MV.fl.injEq, MV.str.injEq, MV.ref.injEq, Option.bind_some, exists_and_left, exists_const, Nat.sub_self, Nat.reduceSub, Nat.reduceAdd, List.append_nil, List.nil_append, List.length_map, Nat.add_zero, Nat.zero_add]
      exact ⟨by omega, fin2 v'⟩
    · split
      · rename_i h1 h2 h3
        have hn : (0 : Int) < cs.length := by simpa using h3
        have b := fmod_bd (i := a * 5 + 3) hn
        obtain ⟨x, e1, e2⟩ := atI_at (xs := cs.map MV.int) b.1 (by simpa using b.2)
        rw [List.getElem?_map, Option.map_eq_some_iff] at e2
        obtain ⟨c, hc, rfl⟩ := e2
        refine ⟨cmulR (by decide) (by decide), by omega, _, e1, cpow (by decide) (by decide) (by decide) (by decide), ?_, spread_ok ha ha2 fun v' => pen_end ht rfl rfl ?_⟩
        · have : (10 : Int) ^ Int.toNat 17 = 100000000000000000 := by decide
          omega
        · simp only [frz, getK, setK, Option.isSome_some, eqM_int, neM_int, kit_ii, kit_bi, kit_ni, kit_si, kit_ti, kit_li, kit_ib, kit_bb, kit_tt, kit_it, kit_bt, kit_nt, kit_st, kit_lt, atI0, atI1, atI2, ixN30, ixN31, ixN32, mFn, startM, mSeq, mIf, mAsg, mRet, mRetN, mDrop, mNext, gN, gT, gsCons, gsNil, gIx, mVar, mInt, mBl, mNon, mStr, mC, mOp1, mOp2, int2, plusM, addM, mulM2, negM, isM, isNotM, isNotM2, isM2, mAug, rg1, rg2, mLstRg, mLstRgC, mTupRg, isNoneM, tV, tNo, tAn, Mini.tOr, mAnd, mOr, mNot, Mini.notM, Bool.not_false, Bool.not_true, Bool.false_eq_true, if_false, if_true, reduceIte, mIfE, aNil, aCons, mTup, mLst, mLstC, mSl, slM, pNo, pAt, mB, mCall, lenM, listM, listMC, tupleM, intM, boolM, ixM, ixV, seqOf, lstOf, Mini.cellOf, mPar, mPar3, mLc, mLcC, mFor, iSeq, Mini.iRng1, Mini.iRng2, Mini.iEnum, Mini.iZip, mIsi, isiM, tyM, mMt, mMt0, appendM, extendM, popM, catF, catF.lstM, mChain, tAll, wipeM, mdK, Prod.mk.injEq, and_assoc, List.map_cons, List.map_nil, List.length_cons, List.length_nil, List.replicate, List.cons_append, List.nil_append, List.getElem?_cons_zero, List.getElem?_cons_succ, List.set_cons_zero, List.set_cons_succ, Option.some.injEq, exists_eq_left', exists_eq_left, true_and, and_true, List.cons.injEq, MV.int.injEq, MV.bl.injEq, MV.tup.injEq, MV.fl.injEq, MV.str.injEq, MV.ref.injEq, Option.bind_some, exists_and_left, exists_const, Nat.sub_self, Nat.reduceSub, Nat.reduceAdd, List.append_nil, List.nil_append, List.length_map, Nat.add_zero, Nat.zero_add]
          exact ⟨by omega, fin2 v'⟩
      · refine spread_ok ha ha2 fun v' => pen_end ht rfl rfl ?_
        simp only [frz, getK, setK, Option.isSome_some, eqM_int, neM_int, kit_ii, kit_bi, kit_ni, kit_si, kit_ti, kit_li, kit_ib, kit_bb, kit_tt, kit_it, kit_bt, kit_nt, kit_st, kit_lt, atI0, atI1, atI2, ixN30, ixN31, ixN32, mFn, startM, mSeq, mIf, mAsg, mRet, mRetN, mDrop, mNext, gN, gT, gsCons, gsNil, gIx, mVar, mInt, mBl, mNon, mStr, mC, mOp1, mOp2, int2, plusM, addM, mulM2, negM, isM, isNotM, isNotM2, isM2, mAug, rg1, rg2, mLstRg, mLstRgC, mTupRg, isNoneM, tV, tNo, tAn, Mini.tOr, mAnd, mOr, mNot, Mini.notM, Bool.not_false, Bool.not_true, Bool.false_eq_true, if_false, if_true, reduceIte, mIfE, aNil, aCons, mTup, mLst, mLstC, mSl, slM, pNo, pAt, mB, mCall, lenM, listM, listMC, tupleM, intM, boolM, ixM, ixV, seqOf, lstOf, Mini.cellOf, mPar, mPar3, mLc, mLcC, mFor, iSeq, Mini.iRng1, Mini.iRng2, Mini.iEnum, Mini.iZip, mIsi, isiM, tyM, mMt, mMt0, appendM, extendM, popM, catF, catF.lstM, mChain, tAll, wipeM, mdK, Prod.mk.injEq, and_assoc, List.map_cons, List.map_nil, List.length_cons, List.length_nil, List.replicate, List.cons_append, List.nil_append, List.getElem?_cons_zero, List.getElem?_cons_succ, List.set_cons_zero, List.set_cons_succ, Option.some.injEq, exists_eq_left', exists_eq_left, true_and, and_true, List.cons.injEq, MV.int.injEq, MV.bl.injEq, MV.tup.injEq, MV.fl.injEq, MV.str.injEq, MV.ref.injEq, Option.bind_some, exists_and_left, exists_const, Nat.sub_self, Nat.reduceSub, Nat.reduceAdd, List.append_nil, List.nil_append, List.length_map, Nat.add_zero, Nat.zero_add]
        exact ⟨by omega, fin2 v'⟩
  · exact ⟨by omega, fin a v (Int.le_refl _) (by omega)⟩
theorem anew_ok {cs : List Int} {a v : Int} {t : MHp} (ht : TOk t) {Q E : MQ} (k : Q (.ref 1) (pen cs a 0 t)) : f__law_anew [.ref 1] (pen cs a v t) Q E := by
  simp only [f__law_anew, b__law_anew, getK, setK, Option.isSome_some, eqM_int, neM_int, kit_ii, kit_bi, kit_ni, kit_si, kit_ti, kit_li, kit_ib, kit_bb, kit_tt, kit_it, kit_bt, kit_nt, kit_st, kit_lt, atI0, atI1, atI2, ixN30, ixN31, ixN32, mFn, startM, mSeq, mIf, mAsg, mRet, mRetN, mDrop, mNext, gN, gT, gsCons, gsNil, gIx, mVar, mInt, mBl, mNon, mStr, mC, mOp1, mOp2, int2, plusM, addM, mulM2, negM, isM, isNotM, isNotM2, isM2, mAug, rg1, rg2, mLstRg, mLstRgC, mTupRg, isNoneM, tV, tNo, tAn, Mini.tOr, mAnd, mOr, mNot, Mini.notM, Bool.not_false, Bool.not_true, Bool.false_eq_true, if_false, if_true, reduceIte, mIfE, aNil, aCons, mTup, mLst, mLstC, mSl, slM, pNo, pAt, mB, mCall, lenM, listM, listMC, tupleM, intM, boolM, ixM, ixV, seqOf, lstOf, Mini.cellOf, mPar, mPar3, mLc, mLcC, mFor, iSeq, Mini.iRng1, Mini.iRng2, Mini.iEnum, Mini.iZip, mIsi, isiM, tyM, mMt, mMt0, appendM, extendM, popM, catF, catF.lstM, mChain, tAll, wipeM, mdK, Prod.mk.injEq, and_assoc, List.map_cons, List.map_nil, List.length_cons, List.length_nil, List.replicate, List.cons_append, List.nil_append, List.getElem?_cons_zero, List.getElem?_cons_succ, List.set_cons_zero, List.set_cons_succ, Option.some.injEq, exists_eq_left', exists_eq_left, true_and, and_true, List.cons.injEq, MV.int.injEq, MV.bl.injEq, MV.tup.injEq, MV.fl.injEq, MV.str.injEq, MV.ref.injEq, Option.bind_some, exists_and_left, exists_const, Nat.sub_self, Nat.reduceSub, Nat.reduceAdd, List.append_nil, List.nil_append, List.length_map, Nat.add_zero, Nat.zero_add]
  have e : frz (t.length + 1 + 1) (pen cs a 0 t) 8 (.ref 1) = .ref 1 := if_pos (by omega)
  refine pen_end ht rfl ?_ ?_
  · rw [e]; simp [MV.lo]
  · rw [e]; exact k
theorem pen_endS {t : MHp} (ht : TOk t) {n : Nat} (hn : n = t.length + 2) {cs : List Int} {a v : Int} {Q : MQ} {x : MV} (hx : x.sok = true) (q : Q x (pen cs a v t)) : mdF n Q x (pen cs a v t) :=
  pen_end ht hn (by rw [frz_sok 8 hx]; exact lo_sok _ _ hx) (by rw [frz_sok 8 hx]; exact q)
theorem one_ok {cs : List Int} {a v : Int} {t : MHp} {xs : List MV} (ht : TOk t) (ha : 0 ≤ a) (ha2 : a < 2 ^ 30) (hx : ∀ x ∈ xs, x.sok = true) (h0 : xs ≠ []) (hl : xs.length < 2 ^ 30) {Q E : MQ} (k : ∀ x a' v', x ∈ xs → a ≤ a' → a' ≤ a + 1 → Q x (pen cs a' v' t)) :
    f__law_one [.ref 1, .fl xs] (pen cs a v t) Q E := by
  have hpos : 0 < xs.length := List.length_pos_iff.mpr h0
  simp only [f__law_one, b__law_one, getK, setK, Option.isSome_some, eqM_int, neM_int, kit_ii, kit_bi, kit_ni, kit_si, kit_ti, kit_li, kit_ib, kit_bb, kit_tt, kit_it, kit_bt, kit_nt, kit_st, kit_lt, atI0, atI1, atI2, ixN30, ixN31, ixN32, mFn, startM, mSeq, mIf, mAsg, mRet, mRetN, mDrop, mNext, gN, gT, gsCons, gsNil, gIx, mVar, mInt, mBl, mNon, mStr, mC, mOp1, mOp2, int2, plusM, addM, mulM2, negM, isM, isNotM, isNotM2, isM2, mAug, rg1, rg2, mLstRg, mLstRgC, mTupRg, isNoneM, tV, tNo, tAn, Mini.tOr, mAnd, mOr, mNot, Mini.notM, Bool.not_false, Bool.not_true, Bool.false_eq_true, if_false, if_true, reduceIte, mIfE, aNil, aCons, mTup, mLst, mLstC, mSl, slM, pNo, pAt, mB, mCall, lenM, listM, listMC, tupleM, intM, boolM, ixM, ixV, seqOf, lstOf, Mini.cellOf, mPar, mPar3, mLc, mLcC, mFor, iSeq, Mini.iRng1, Mini.iRng2, Mini.iEnum, Mini.iZip, mIsi, isiM, tyM, mMt, mMt0, appendM, extendM, popM, catF, catF.lstM, mChain, tAll, wipeM, mdK, Prod.mk.injEq, and_assoc, List.map_cons, List.map_nil, List.length_cons, List.length_nil, List.replicate, List.cons_append, List.nil_append, List.getElem?_cons_zero, List.getElem?_cons_succ, List.set_cons_zero, List.set_cons_succ, Option.some.injEq, exists_eq_left', exists_eq_left, true_and, and_true, List.cons.injEq, MV.int.injEq, MV.bl.injEq, MV.tup.injEq, MV.fl.injEq, MV.str.injEq, MV.ref.injEq, Option.bind_some, exists_and_left, exists_const, Nat.sub_self, Nat.reduceSub, Nat.reduceAdd, List.append_nil, List.nil_append, List.length_map, Nat.add_zero, Nat.zero_add]
  refine take_ok ht ha ha2 (by omega) (by omega) fun r a' v' h1 h2 h3 h4 => ?_
  obtain ⟨x, e1, e2⟩ := atI_at (xs := xs) h1 h2
  have hm := List.mem_of_getElem? e2
  simp only [getK, setK, Option.isSome_some, eqM_int, neM_int, kit_ii, kit_bi, kit_ni, kit_si, kit_ti, kit_li, kit_ib, kit_bb, kit_tt, kit_it, kit_bt, kit_nt, kit_st, kit_lt, atI0, atI1, atI2, ixN30, ixN31, ixN32, mFn, startM, mSeq, mIf, mAsg, mRet, mRetN, mDrop, mNext, gN, gT, gsCons, gsNil, gIx, mVar, mInt, mBl, mNon, mStr, mC, mOp1, mOp2, int2, plusM, addM, mulM2, negM, isM, isNotM, isNotM2, isM2, mAug, rg1, rg2, mLstRg, mLstRgC, mTupRg, isNoneM, tV, tNo, tAn, Mini.tOr, mAnd, mOr, mNot, Mini.notM, Bool.not_false, Bool.not_true, Bool.false_eq_true, if_false, if_true, reduceIte, mIfE, aNil, aCons, mTup, mLst, mLstC, mSl, slM, pNo, pAt, mB, mCall, lenM, listM, listMC, tupleM, intM, boolM, ixM, ixV, seqOf, lstOf, Mini.cellOf, mPar, mPar3, mLc, mLcC, mFor, iSeq, Mini.iRng1, Mini.iRng2, Mini.iEnum, Mini.iZip, mIsi, isiM, tyM, mMt, mMt0, appendM, extendM, popM, catF, catF.lstM, mChain, tAll, wipeM, mdK, Prod.mk.injEq, and_assoc, List.map_cons, List.map_nil, List.length_cons, List.length_nil, List.replicate, List.cons_append, List.nil_append, List.getElem?_cons_zero, List.getElem?_cons_succ, List.set_cons_zero, List.set_cons_succ, Option.some.injEq, exists_eq_left', exists_eq_left, true_and, and_true, List.cons.injEq, MV.int.injEq, MV.bl.injEq, MV.tup.injEq, MV.fl.injEq, MV.str.injEq, MV.ref.injEq, Option.bind_some, exists_and_left, exists_const, Nat.sub_self, Nat.reduceSub, Nat.reduceAdd, List.append_nil, List.nil_append, List.length_map, Nat.add_zero, Nat.zero_add]
  exact ⟨x, e1, pen_endS ht rfl (hx x hm) (k x a' v' hm h3 h4)⟩

end Lw
namespace Lw
open PySem PySem.Spec PyProof.Rows L2 Mini PySem.W
theorem bl_end {h : MHp} (hh : Hh h) {Q : MQ} {b : Bool} (q : Q (.bl b) h) : mdF h.length Q (.bl b) h := mdF_same rfl hh rfl q
def wholeB (v : MV) (lo hi : Int) : Bool := match v with
  | .int i => decide (lo ≤ i) && decide (i ≤ hi)
  | _ => false
theorem integer_ok {v : MV} {h : MHp} (hh : Hh h) (hv : v.sok = true) {Q E : MQ} (k : Q (.bl (match v with | .int _ => true | _ => false)) h) : f_is_integer [v] h Q E := by
  simp only [f_is_integer, b_is_integer, getK, setK, Option.isSome_some, eqM_int, neM_int, kit_ii, kit_bi, kit_ni, kit_si, kit_ti, kit_li, kit_ib, kit_bb, kit_tt, kit_it, kit_bt, kit_nt, kit_st, kit_lt, atI0, atI1, atI2, ixN30, ixN31, ixN32, mFn, startM, mSeq, mIf, mAsg, mRet, mRetN, mDrop, mNext, gN, gT, gsCons, gsNil, gIx, mVar, mInt, mBl, mNon, mStr, mC, mOp1, mOp2, int2, plusM, addM, mulM2, negM, isM, isNotM, isNotM2, isM2, mAug, rg1, rg2, mLstRg, mLstRgC, mTupRg, isNoneM, tV, tNo, tAn, Mini.tOr, mAnd, mOr, mNot, Mini.notM, Bool.not_false, Bool.not_true, Bool.false_eq_true, if_false, if_true, reduceIte, mIfE, aNil, aCons, mTup, mLst, mLstC, mSl, slM, pNo, pAt, mB, mCall, lenM, listM, listMC, tupleM, intM, boolM, ixM, ixV, seqOf, lstOf, Mini.cellOf, mPar, mPar3, mLc, mLcC, mFor, iSeq, Mini.iRng1, Mini.iRng2, Mini.iEnum, Mini.iZip, mIsi, isiM, tyM, mMt, mMt0, appendM, extendM, popM, catF, catF.lstM, mChain, tAll, wipeM, mdK, Prod.mk.injEq, and_assoc, List.map_cons, List.map_nil, List.length_cons, List.length_nil, List.replicate, List.cons_append, List.nil_append, List.getElem?_cons_zero, List.getElem?_cons_succ, List.set_cons_zero, List.set_cons_succ, Option.some.injEq, exists_eq_left', exists_eq_left, true_and, and_true, List.cons.injEq, MV.int.injEq, MV.bl.injEq, MV.tup.injEq, MV.fl.injEq, MV.str.injEq, MV.ref.injEq, Option.bind_some, exists_and_left, exists_const, Nat.sub_self, Nat.reduceSub, Nat.reduceAdd, List.append_nil, List.nil_append, List.length_map, Nat.add_zero, Nat.zero_add]
  cases v <;> first | (simp [MV.sok] at hv; done) | skip
  all_goals (simp only [getK, setK, Option.isSome_some, eqM_int, neM_int, kit_ii, kit_bi, kit_ni, kit_si, kit_ti, kit_li, kit_ib, kit_bb, kit_tt, kit_it, kit_bt, kit_nt, kit_st, kit_lt, atI0, atI1, atI2, ixN30, ixN31, ixN32, mFn, startM, mSeq, mIf, mAsg, mRet, mRetN, mDrop, mNext, gN, gT, gsCons, gsNil, gIx, mVar, mInt, mBl, mNon, mStr, mC, mOp1, mOp2, int2, plusM, addM, mulM2, negM, isM, isNotM, isNotM2, isM2, mAug, rg1, rg2, mLstRg, mLstRgC, mTupRg, isNoneM, tV, tNo, tAn, Mini.tOr, mAnd, mOr, mNot, Mini.notM, Bool.not_false, Bool.not_true, Bool.false_eq_true, if_false, if_true, reduceIte, mIfE, aNil, aCons, mTup, mLst, mLstC, mSl, slM, pNo, pAt, mB, mCall, lenM, listM, listMC, tupleM, intM, boolM, ixM, ixV, seqOf, lstOf, Mini.cellOf, mPar, mPar3, mLc, mLcC, mFor, iSeq, Mini.iRng1, Mini.iRng2, Mini.iEnum, Mini.iZip, mIsi, isiM, tyM, mMt, mMt0, appendM, extendM, popM, catF, catF.lstM, mChain, tAll, wipeM, mdK, Prod.mk.injEq, and_assoc, List.map_cons, List.map_nil, List.length_cons, List.length_nil, List.replicate, List.cons_append, List.nil_append, List.getElem?_cons_zero, List.getElem?_cons_succ, List.set_cons_zero, List.set_cons_succ, Option.some.injEq, exists_eq_left', exists_eq_left, true_and, and_true, List.cons.injEq, MV.int.injEq, MV.bl.injEq, MV.tup.injEq, MV.fl.injEq, MV.str.injEq, MV.ref.injEq, Option.bind_some, exists_and_left, exists_const, Nat.sub_self, Nat.reduceSub, Nat.reduceAdd, List.append_nil, List.nil_append, List.length_map, Nat.add_zero, Nat.zero_add, if_true, Bool.not_true, Bool.not_false, Bool.false_eq_true, if_false]; exact bl_end hh k)
theorem between_ok {v : MV} {lo hi : Int} {h : MHp} (hh : Hh h) (hv : v.sok = true) {Q E : MQ} (k : Q (.bl (wholeB v lo hi)) h) : f_is_between [v, .int lo, .int hi] h Q E := by
  simp only [f_is_between, b_is_between, getK, setK, Option.isSome_some, eqM_int, neM_int, kit_ii, kit_bi, kit_ni, kit_si, kit_ti, kit_li, kit_ib, kit_bb, kit_tt, kit_it, kit_bt, kit_nt, kit_st, kit_lt, atI0, atI1, atI2, ixN30, ixN31, ixN32, mFn, startM, mSeq, mIf, mAsg, mRet, mRetN, mDrop, mNext, gN, gT, gsCons, gsNil, gIx, mVar, mInt, mBl, mNon, mStr, mC, mOp1, mOp2, int2, plusM, addM, mulM2, negM, isM, isNotM, isNotM2, isM2, mAug, rg1, rg2, mLstRg, mLstRgC, mTupRg, isNoneM, tV, tNo, tAn, Mini.tOr, mAnd, mOr, mNot, Mini.notM, Bool.not_false, Bool.not_true, Bool.false_eq_true, if_false, if_true, reduceIte, mIfE, aNil, aCons, mTup, mLst, mLstC, mSl, slM, pNo, pAt, mB, mCall, lenM, listM, listMC, tupleM, intM, boolM, ixM, ixV, seqOf, lstOf, Mini.cellOf, mPar, mPar3, mLc, mLcC, mFor, iSeq, Mini.iRng1, Mini.iRng2, Mini.iEnum, Mini.iZip, mIsi, isiM, tyM, mMt, mMt0, appendM, extendM, popM, catF, catF.lstM, mChain, tAll, wipeM, mdK, Prod.mk.injEq, and_assoc, List.map_cons, List.map_nil, List.length_cons, List.length_nil, List.replicate, List.cons_append, List.nil_append, List.getElem?_cons_zero, List.getElem?_cons_succ, List.set_cons_zero, List.set_cons_succ, Option.some.injEq, exists_eq_left', exists_eq_left, true_and, and_true, List.cons.injEq, MV.int.injEq, MV.bl.injEq, MV.tup.injEq, MV.fl.injEq, MV.str.injEq, MV.ref.injEq, Option.bind_some, exists_and_left, exists_const, Nat.sub_self, Nat.reduceSub, Nat.reduceAdd, List.append_nil, List.nil_append, List.length_map, Nat.add_zero, Nat.zero_add]
  refine integer_ok hh hv ?_
  cases v <;> first | (simp [MV.sok] at hv; done) | skip
  case int i =>
    simp only [getK, setK, Option.isSome_some, eqM_int, neM_int, kit_ii, kit_bi, kit_ni, kit_si, kit_ti, kit_li, kit_ib, kit_bb, kit_tt, kit_it, kit_bt, kit_nt, kit_st, kit_lt, atI0, atI1, atI2, ixN30, ixN31, ixN32, mFn, startM, mSeq, mIf, mAsg, mRet, mRetN, mDrop, mNext, gN, gT, gsCons, gsNil, gIx, mVar, mInt, mBl, mNon, mStr, mC, mOp1, mOp2, int2, plusM, addM, mulM2, negM, isM, isNotM, isNotM2, isM2, mAug, rg1, rg2, mLstRg, mLstRgC, mTupRg, isNoneM, tV, tNo, tAn, Mini.tOr, mAnd, mOr, mNot, Mini.notM, Bool.not_false, Bool.not_true, Bool.false_eq_true, if_false, if_true, reduceIte, mIfE, aNil, aCons, mTup, mLst, mLstC, mSl, slM, pNo, pAt, mB, mCall, lenM, listM, listMC, tupleM, intM, boolM, ixM, ixV, seqOf, lstOf, Mini.cellOf, mPar, mPar3, mLc, mLcC, mFor, iSeq, Mini.iRng1, Mini.iRng2, Mini.iEnum, Mini.iZip, mIsi, isiM, tyM, mMt, mMt0, appendM, extendM, popM, catF, catF.lstM, mChain, tAll, wipeM, mdK, Prod.mk.injEq, and_assoc, List.map_cons, List.map_nil, List.length_cons, List.length_nil, List.replicate, List.cons_append, List.nil_append, List.getElem?_cons_zero, List.getElem?_cons_succ, List.set_cons_zero, List.set_cons_succ, Option.some.injEq, exists_eq_left', exists_eq_left, true_and, and_true, List.cons.injEq, MV.int.injEq, MV.bl.injEq, MV.tup.injEq, MV.fl.injEq, MV.str.injEq, MV.ref.injEq, Option.bind_some, exists_and_left, exists_const, Nat.sub_self, Nat.reduceSub, Nat.reduceAdd, List.append_nil, List.nil_append, List.length_map, Nat.add_zero, Nat.zero_add, if_true]
    by_cases h1 : lo ≤ i
    · simp only [wholeB, h1, decide_true, Bool.true_and, if_true] at k ⊢
      exact bl_end hh k
    · simp only [wholeB, h1, decide_false, Bool.false_and, Bool.false_eq_true, if_false] at k ⊢
      exact bl_end hh k
  all_goals (simp only [getK, setK, Option.isSome_some, eqM_int, neM_int, kit_ii, kit_bi, kit_ni, kit_si, kit_ti, kit_li, kit_ib, kit_bb, kit_tt, kit_it, kit_bt, kit_nt, kit_st, kit_lt, atI0, atI1, atI2, ixN30, ixN31, ixN32, mFn, startM, mSeq, mIf, mAsg, mRet, mRetN, mDrop, mNext, gN, gT, gsCons, gsNil, gIx, mVar, mInt, mBl, mNon, mStr, mC, mOp1, mOp2, int2, plusM, addM, mulM2, negM, isM, isNotM, isNotM2, isM2, mAug, rg1, rg2, mLstRg, mLstRgC, mTupRg, isNoneM, tV, tNo, tAn, Mini.tOr, mAnd, mOr, mNot, Mini.notM, Bool.not_false, Bool.not_true, Bool.false_eq_true, if_false, if_true, reduceIte, mIfE, aNil, aCons, mTup, mLst, mLstC, mSl, slM, pNo, pAt, mB, mCall, lenM, listM, listMC, tupleM, intM, boolM, ixM, ixV, seqOf, lstOf, Mini.cellOf, mPar, mPar3, mLc, mLcC, mFor, iSeq, Mini.iRng1, Mini.iRng2, Mini.iEnum, Mini.iZip, mIsi, isiM, tyM, mMt, mMt0, appendM, extendM, popM, catF, catF.lstM, mChain, tAll, wipeM, mdK, Prod.mk.injEq, and_assoc, List.map_cons, List.map_nil, List.length_cons, List.length_nil, List.replicate, List.cons_append, List.nil_append, List.getElem?_cons_zero, List.getElem?_cons_succ, List.set_cons_zero, List.set_cons_succ, Option.some.injEq, exists_eq_left', exists_eq_left, true_and, and_true, List.cons.injEq, MV.int.injEq, MV.bl.injEq, MV.tup.injEq, MV.fl.injEq, MV.str.injEq, MV.ref.injEq, Option.bind_some, exists_and_left, exists_const, Nat.sub_self, Nat.reduceSub, Nat.reduceAdd, List.append_nil, List.nil_append, List.length_map, Nat.add_zero, Nat.zero_add, Bool.false_eq_true, if_false]; exact bl_end hh k)

def memberB (ss : List Int) (v : MV) : Bool := match v with
  | .tup [.int i, b] => (decide (0 ≤ i) && decide (i ≤ (ss.length : Int) - 1)) && wholeB b 0 (ss.getD i.toNat 0 - 1)
  | _ => false
theorem sok2 {a b : MV} (h : (MV.tup [a, b]).sok = true) : a.sok = true ∧ b.sok = true := by simpa [MV.sok, sokAll] using h
theorem sok3 {a b c : MV} (h : (MV.tup [a, b, c]).sok = true) : a.sok = true ∧ b.sok = true ∧ c.sok = true := by simpa [MV.sok, sokAll] using h
theorem size_at {ss : List Int} {i : Int} (h1 : 0 ≤ i) (h2 : i ≤ (ss.length : Int) - 1) : atI (ss.map MV.int) i = some (.int (ss.getD i.toNat 0)) := by
  obtain ⟨x, e1, e2⟩ := atI_at (xs := ss.map MV.int) h1 (by rw [List.length_map]; omega)
  rw [List.getElem?_map, Option.map_eq_some_iff] at e2
  obtain ⟨c, hc, rfl⟩ := e2
  rw [e1, List.getD_eq_getElem?_getD, hc]
  rfl
theorem job_ok {ss : List Int} {v : MV} {h : MHp} (hh : Hh h) (hv : v.sok = true) {Q E : MQ} (k : Q (.bl (memberB ss v)) h) : f_is_job_in [.tup (ss.map .int), v] h Q E := by
  simp only [f_is_job_in, b_is_job_in, getK, setK, Option.isSome_some, eqM_int, neM_int, kit_ii, kit_bi, kit_ni, kit_si, kit_ti, kit_li, kit_ib, kit_bb, kit_tt, kit_it, kit_bt, kit_nt, kit_st, kit_lt, atI0, atI1, atI2, ixN30, ixN31, ixN32, mFn, startM, mSeq, mIf, mAsg, mRet, mRetN, mDrop, mNext, gN, gT, gsCons, gsNil, gIx, mVar, mInt, mBl, mNon, mStr, mC, mOp1, mOp2, int2, plusM, addM, mulM2, negM, isM, isNotM, isNotM2, isM2, mAug, rg1, rg2, mLstRg, mLstRgC, mTupRg, isNoneM, tV, tNo, tAn, Mini.tOr, mAnd, mOr, mNot, Mini.notM, Bool.not_false, Bool.not_true, Bool.false_eq_true, if_false, if_true, reduceIte, mIfE, aNil, aCons, mTup, mLst, mLstC, mSl, slM, pNo, pAt, mB, mCall, lenM, listM, listMC, tupleM, intM, boolM, ixM, ixV, seqOf, lstOf, Mini.cellOf, mPar, mPar3, mLc, mLcC, mFor, iSeq, Mini.iRng1, Mini.iRng2, Mini.iEnum, Mini.iZip, mIsi, isiM, tyM, mMt, mMt0, appendM, extendM, popM, catF, catF.lstM, mChain, tAll, wipeM, mdK, Prod.mk.injEq, and_assoc, List.map_cons, List.map_nil, List.length_cons, List.length_nil, List.replicate, List.cons_append, List.nil_append, List.getElem?_cons_zero, List.getElem?_cons_succ, List.set_cons_zero, List.set_cons_succ, Option.some.injEq, exists_eq_left', exists_eq_left, true_and, and_true, List.cons.injEq, MV.int.injEq, MV.bl.injEq, MV.tup.injEq, MV.fl.injEq, MV.str.injEq, MV.ref.injEq, Option.bind_some, exists_and_left, exists_const, Nat.sub_self, Nat.reduceSub, Nat.reduceAdd, List.append_nil, List.nil_append, List.length_map, Nat.add_zero, Nat.zero_add]
  cases v <;> first | (simp [MV.sok] at hv; done) | skip
  case tup xs =>
    simp only [getK, setK, Option.isSome_some, eqM_int, neM_int, kit_ii, kit_bi, kit_ni, kit_si, kit_ti, kit_li, kit_ib, kit_bb, kit_tt, kit_it, kit_bt, kit_nt, kit_st, kit_lt, atI0, atI1, atI2, ixN30, ixN31, ixN32, mFn, startM, mSeq, mIf, mAsg, mRet, mRetN, mDrop, mNext, gN, gT, gsCons, gsNil, gIx, mVar, mInt, mBl, mNon, mStr, mC, mOp1, mOp2, int2, plusM, addM, mulM2, negM, isM, isNotM, isNotM2, isM2, mAug, rg1, rg2, mLstRg, mLstRgC, mTupRg, isNoneM, tV, tNo, tAn, Mini.tOr, mAnd, mOr, mNot, Mini.notM, Bool.not_false, Bool.not_true, Bool.false_eq_true, if_false, if_true, reduceIte, mIfE, aNil, aCons, mTup, mLst, mLstC, mSl, slM, pNo, pAt, mB, mCall, lenM, listM, listMC, tupleM, intM, boolM, ixM, ixV, seqOf, lstOf, Mini.cellOf, mPar, mPar3, mLc, mLcC, mFor, iSeq, Mini.iRng1, Mini.iRng2, Mini.iEnum, Mini.iZip, mIsi, isiM, tyM, mMt, mMt0, appendM, extendM, popM, catF, catF.lstM, mChain, tAll, wipeM, mdK, Prod.mk.injEq, and_assoc, List.map_cons, List.map_nil, List.length_cons, List.length_nil, List.replicate, List.cons_append, List.nil_append, List.getElem?_cons_zero, List.getElem?_cons_succ, List.set_cons_zero, List.set_cons_succ, Option.some.injEq, exists_eq_left', exists_eq_left, true_and, and_true, List.cons.injEq, MV.int.injEq, MV.bl.injEq, MV.tup.injEq, MV.fl.injEq, MV.str.injEq, MV.ref.injEq, Option.bind_some, exists_and_left, exists_const, Nat.sub_self, Nat.reduceSub, Nat.reduceAdd, List.append_nil, List.nil_append, List.length_map, Nat.add_zero, Nat.zero_add]
    by_cases hl : xs.length = 2
    · obtain ⟨a, b, rfl⟩ := len2 hl
      obtain ⟨ha, hb⟩ := sok2 hv
      simp only [getK, setK, Option.isSome_some, eqM_int, neM_int, kit_ii, kit_bi, kit_ni, kit_si, kit_ti, kit_li, kit_ib, kit_bb, kit_tt, kit_it, kit_bt, kit_nt, kit_st, kit_lt, atI0, atI1, atI2, ixN30, ixN31, ixN32, mFn, startM, mSeq, mIf, mAsg, mRet, mRetN, mDrop, mNext, gN, gT, gsCons, gsNil, gIx, mVar, mInt, mBl, mNon, mStr, mC, mOp1, mOp2, int2, plusM, addM, mulM2, negM, isM, isNotM, isNotM2, isM2, mAug, rg1, rg2, mLstRg, mLstRgC, mTupRg, isNoneM, tV, tNo, tAn, Mini.tOr, mAnd, mOr, mNot, Mini.notM, Bool.not_false, Bool.not_true, Bool.false_eq_true, if_false, if_true, reduceIte, mIfE, aNil, aCons, mTup, mLst, mLstC, mSl, slM, pNo, pAt, mB, mCall, lenM, listM, listMC, tupleM, intM, boolM, ixM, ixV, seqOf, lstOf, Mini.cellOf, mPar, mPar3, mLc, mLcC, mFor, iSeq, Mini.iRng1, Mini.iRng2, Mini.iEnum, Mini.iZip, mIsi, isiM, tyM, mMt, mMt0, appendM, extendM, popM, catF, catF.lstM, mChain, tAll, wipeM, mdK, Prod.mk.injEq, and_assoc, List.map_cons, List.map_nil, List.length_cons, List.length_nil, List.replicate, List.cons_append, List.nil_append, List.getElem?_cons_zero, List.getElem?_cons_succ, List.set_cons_zero, List.set_cons_succ, Option.some.injEq, exists_eq_left', exists_eq_left, true_and, and_true, List.cons.injEq, MV.int.injEq, MV.bl.injEq, MV.tup.injEq, MV.fl.injEq, MV.str.injEq, MV.ref.injEq, Option.bind_some, exists_and_left, exists_const, Nat.sub_self, Nat.reduceSub, Nat.reduceAdd, List.append_nil, List.nil_append, List.length_map, Nat.add_zero, Nat.zero_add]
      rw [if_neg (by decide)]
      refine between_ok hh ha ?_
      refine ⟨_, rfl, ?_⟩
      cases a <;> first | (simp [MV.sok] at ha; done) | skip
      case int i =>
        by_cases h1 : 0 ≤ i
        · by_cases h2 : i ≤ (ss.length : Int) - 1
          · simp only [wholeB, h1, h2, decide_true, Bool.and_self, getK, setK, Option.isSome_some, eqM_int, neM_int, kit_ii, kit_bi, kit_ni, kit_si, kit_ti, kit_li, kit_ib, kit_bb, kit_tt, kit_it, kit_bt, kit_nt, kit_st, kit_lt, atI0, atI1, atI2, ixN30, ixN31, ixN32, mFn, startM, mSeq, mIf, mAsg, mRet, mRetN, mDrop, mNext, gN, gT, gsCons, gsNil, gIx, mVar, mInt, mBl, mNon, mStr, mC, mOp1, mOp2, int2, plusM, addM, mulM2, negM, isM, isNotM, isNotM2, isM2, mAug, rg1, rg2, mLstRg, mLstRgC, mTupRg, isNoneM, tV, tNo, tAn, Mini.tOr, mAnd, mOr, mNot, Mini.notM, Bool.not_false, Bool.not_true, Bool.false_eq_true, if_false, if_true, reduceIte, mIfE, aNil, aCons, mTup, mLst, mLstC, mSl, slM, pNo, pAt, mB, mCall, lenM, listM, listMC, tupleM, intM, boolM, ixM, ixV, seqOf, lstOf, Mini.cellOf, mPar, mPar3, mLc, mLcC, mFor, iSeq, Mini.iRng1, Mini.iRng2, Mini.iEnum, Mini.iZip, mIsi, isiM, tyM, mMt, mMt0, appendM, extendM, popM, catF, catF.lstM, mChain, tAll, wipeM, mdK, Prod.mk.injEq, and_assoc, List.map_cons, List.map_nil, List.length_cons, List.length_nil, List.replicate, List.cons_append, List.nil_append, List.getElem?_cons_zero, List.getElem?_cons_succ, List.set_cons_zero, List.set_cons_succ, Option.some.injEq, exists_eq_left', exists_eq_left, true_and, and_true, List.cons.injEq, MV.int.injEq, MV.bl.injEq, MV.tup.injEq, MV.fl.injEq, MV.str.injEq, MV.ref.injEq, Option.bind_some, exists_and_left, exists_const, Nat.sub_self, Nat.reduceSub, Nat.reduceAdd, List.append_nil, List.nil_append, List.length_map, Nat.add_zero, Nat.zero_add]
            refine ⟨_, size_at h1 h2, ?_⟩
            simp only [getK, setK, Option.isSome_some, eqM_int, neM_int, kit_ii, kit_bi, kit_ni, kit_si, kit_ti, kit_li, kit_ib, kit_bb, kit_tt, kit_it, kit_bt, kit_nt, kit_st, kit_lt, atI0, atI1, atI2, ixN30, ixN31, ixN32, mFn, startM, mSeq, mIf, mAsg, mRet, mRetN, mDrop, mNext, gN, gT, gsCons, gsNil, gIx, mVar, mInt, mBl, mNon, mStr, mC, mOp1, mOp2, int2, plusM, addM, mulM2, negM, isM, isNotM, isNotM2, isM2, mAug, rg1, rg2, mLstRg, mLstRgC, mTupRg, isNoneM, tV, tNo, tAn, Mini.tOr, mAnd, mOr, mNot, Mini.notM, Bool.not_false, Bool.not_true, Bool.false_eq_true, if_false, if_true, reduceIte, mIfE, aNil, aCons, mTup, mLst, mLstC, mSl, slM, pNo, pAt, mB, mCall, lenM, listM, listMC, tupleM, intM, boolM, ixM, ixV, seqOf, lstOf, Mini.cellOf, mPar, mPar3, mLc, mLcC, mFor, iSeq, Mini.iRng1, Mini.iRng2, Mini.iEnum, Mini.iZip, mIsi, isiM, tyM, mMt, mMt0, appendM, extendM, popM, catF, catF.lstM, mChain, tAll, wipeM, mdK, Prod.mk.injEq, and_assoc, List.map_cons, List.map_nil, List.length_cons, List.length_nil, List.replicate, List.cons_append, List.nil_append, List.getElem?_cons_zero, List.getElem?_cons_succ, List.set_cons_zero, List.set_cons_succ, Option.some.injEq, exists_eq_left', exists_eq_left, true_and, and_true, List.cons.injEq, MV.int.injEq, MV.bl.injEq, MV.tup.injEq, MV.fl.injEq, MV.str.injEq, MV.ref.injEq, Option.bind_some, exists_and_left, exists_const, Nat.sub_self, Nat.reduceSub, Nat.reduceAdd, List.append_nil, List.nil_append, List.length_map, Nat.add_zero, Nat.zero_add]
            refine between_ok hh hb (bl_end hh ?_)
            simpa only [memberB, h1, h2, decide_true, Bool.true_and] using k
          · simp only [wholeB, h1, h2, decide_true, decide_false, Bool.and_false, getK, setK, Option.isSome_some, eqM_int, neM_int, kit_ii, kit_bi, kit_ni, kit_si, kit_ti, kit_li, kit_ib, kit_bb, kit_tt, kit_it, kit_bt, kit_nt, kit_st, kit_lt, atI0, atI1, atI2, ixN30, ixN31, ixN32, mFn, startM, mSeq, mIf, mAsg, mRet, mRetN, mDrop, mNext, gN, gT, gsCons, gsNil, gIx, mVar, mInt, mBl, mNon, mStr, mC, mOp1, mOp2, int2, plusM, addM, mulM2, negM, isM, isNotM, isNotM2, isM2, mAug, rg1, rg2, mLstRg, mLstRgC, mTupRg, isNoneM, tV, tNo, tAn, Mini.tOr, mAnd, mOr, mNot, Mini.notM, Bool.not_false, Bool.not_true, Bool.false_eq_true, if_false, if_true, reduceIte, mIfE, aNil, aCons, mTup, mLst, mLstC, mSl, slM, pNo, pAt, mB, mCall, lenM, listM, listMC, tupleM, intM, boolM, ixM, ixV, seqOf, lstOf, Mini.cellOf, mPar, mPar3, mLc, mLcC, mFor, iSeq, Mini.iRng1, Mini.iRng2, Mini.iEnum, Mini.iZip, mIsi, isiM, tyM, mMt, mMt0, appendM, extendM, popM, catF, catF.lstM, mChain, tAll, wipeM, mdK, Prod.mk.injEq, and_assoc, List.map_cons, List.map_nil, List.length_cons, List.length_nil, List.replicate, List.cons_append, List.nil_append, List.getElem?_cons_zero, List.getElem?_cons_succ, List.set_cons_zero, List.set_cons_succ, Option.some.injEq, exists_eq_left', exists_eq_left, true_and, and_true, List.cons.injEq, MV.int.injEq, MV.bl.injEq, MV.tup.injEq, MV.fl.injEq, MV.str.injEq, MV.ref.injEq, Option.bind_some, exists_and_left, exists_const, Nat.sub_self, Nat.reduceSub, Nat.reduceAdd, List.append_nil, List.nil_append, List.length_map, Nat.add_zero, Nat.zero_add]
            refine bl_end hh ?_
            simpa only [memberB, h1, h2, decide_true, decide_false, Bool.and_false, Bool.false_and] using k
        · simp only [wholeB, h1, decide_false, Bool.false_and, getK, setK, Option.isSome_some, eqM_int, neM_int, kit_ii, kit_bi, kit_ni, kit_si, kit_ti, kit_li, kit_ib, kit_bb, kit_tt, kit_it, kit_bt, kit_nt, kit_st, kit_lt, atI0, atI1, atI2, ixN30, ixN31, ixN32, mFn, startM, mSeq, mIf, mAsg, mRet, mRetN, mDrop, mNext, gN, gT, gsCons, gsNil, gIx, mVar, mInt, mBl, mNon, mStr, mC, mOp1, mOp2, int2, plusM, addM, mulM2, negM, isM, isNotM, isNotM2, isM2, mAug, rg1, rg2, mLstRg, mLstRgC, mTupRg, isNoneM, tV, tNo, tAn, Mini.tOr, mAnd, mOr, mNot, Mini.notM, Bool.not_false, Bool.not_true, Bool.false_eq_true, if_false, if_true, reduceIte, mIfE, aNil, aCons, mTup, mLst, mLstC, mSl, slM, pNo, pAt, mB, mCall, lenM, listM, listMC, tupleM, intM, boolM, ixM, ixV, seqOf, lstOf, Mini.cellOf, mPar, mPar3, mLc, mLcC, mFor, iSeq, Mini.iRng1, Mini.iRng2, Mini.iEnum, Mini.iZip, mIsi, isiM, tyM, mMt, mMt0, appendM, extendM, popM, catF, catF.lstM, mChain, tAll, wipeM, mdK, Prod.mk.injEq, and_assoc, List.map_cons, List.map_nil, List.length_cons, List.length_nil, List.replicate, List.cons_append, List.nil_append, List.getElem?_cons_zero, List.getElem?_cons_succ, List.set_cons_zero, List.set_cons_succ, Option.some.injEq, exists_eq_left', exists_eq_left, true_and, and_true, List.cons.injEq, MV.int.injEq, MV.bl.injEq, MV.tup.injEq, MV.fl.injEq, MV.str.injEq, MV.ref.injEq, Option.bind_some, exists_and_left, exists_const, Nat.sub_self, Nat.reduceSub, Nat.reduceAdd, List.append_nil, List.nil_append, List.length_map, Nat.add_zero, Nat.zero_add]
          refine bl_end hh ?_
          simpa only [memberB, h1, decide_false, Bool.false_and] using k
      all_goals (simp only [wholeB, getK, setK, Option.isSome_some, eqM_int, neM_int, kit_ii, kit_bi, kit_ni, kit_si, kit_ti, kit_li, kit_ib, kit_bb, kit_tt, kit_it, kit_bt, kit_nt, kit_st, kit_lt, atI0, atI1, atI2, ixN30, ixN31, ixN32, mFn, startM, mSeq, mIf, mAsg, mRet, mRetN, mDrop, mNext, gN, gT, gsCons, gsNil, gIx, mVar, mInt, mBl, mNon, mStr, mC, mOp1, mOp2, int2, plusM, addM, mulM2, negM, isM, isNotM, isNotM2, isM2, mAug, rg1, rg2, mLstRg, mLstRgC, mTupRg, isNoneM, tV, tNo, tAn, Mini.tOr, mAnd, mOr, mNot, Mini.notM, Bool.not_false, Bool.not_true, Bool.false_eq_true, if_false, if_true, reduceIte, mIfE, aNil, aCons, mTup, mLst, mLstC, mSl, slM, pNo, pAt, mB, mCall, lenM, listM, listMC, tupleM, intM, boolM, ixM, ixV, seqOf, lstOf, Mini.cellOf, mPar, mPar3, mLc, mLcC, mFor, iSeq, Mini.iRng1, Mini.iRng2, Mini.iEnum, Mini.iZip, mIsi, isiM, tyM, mMt, mMt0, appendM, extendM, popM, catF, catF.lstM, mChain, tAll, wipeM, mdK, Prod.mk.injEq, and_assoc, List.map_cons, List.map_nil, List.length_cons, List.length_nil, List.replicate, List.cons_append, List.nil_append, List.getElem?_cons_zero, List.getElem?_cons_succ, List.set_cons_zero, List.set_cons_succ, Option.some.injEq, exists_eq_left', exists_eq_left, true_and, and_true, List.cons.injEq, MV.int.injEq, MV.bl.injEq, MV.tup.injEq, MV.fl.injEq, MV.str.injEq, MV.ref.injEq, Option.bind_some, exists_and_left, exists_const, Nat.sub_self, Nat.reduceSub, Nat.reduceAdd, List.append_nil, List.nil_append, List.length_map, Nat.add_zero, Nat.zero_add]; exact bl_end hh k)
    · have e : ((xs.length : Int) == 2) = false := by simp; omega
      simp only [e, getK, setK, Option.isSome_some, eqM_int, neM_int, kit_ii, kit_bi, kit_ni, kit_si, kit_ti, kit_li, kit_ib, kit_bb, kit_tt, kit_it, kit_bt, kit_nt, kit_st, kit_lt, atI0, atI1, atI2, ixN30, ixN31, ixN32, mFn, startM, mSeq, mIf, mAsg, mRet, mRetN, mDrop, mNext, gN, gT, gsCons, gsNil, gIx, mVar, mInt, mBl, mNon, mStr, mC, mOp1, mOp2, int2, plusM, addM, mulM2, negM, isM, isNotM, isNotM2, isM2, mAug, rg1, rg2, mLstRg, mLstRgC, mTupRg, isNoneM, tV, tNo, tAn, Mini.tOr, mAnd, mOr, mNot, Mini.notM, Bool.not_false, Bool.not_true, Bool.false_eq_true, if_false, if_true, reduceIte, mIfE, aNil, aCons, mTup, mLst, mLstC, mSl, slM, pNo, pAt, mB, mCall, lenM, listM, listMC, tupleM, intM, boolM, ixM, ixV, seqOf, lstOf, Mini.cellOf, mPar, mPar3, mLc, mLcC, mFor, iSeq, Mini.iRng1, Mini.iRng2, Mini.iEnum, Mini.iZip, mIsi, isiM, tyM, mMt, mMt0, appendM, extendM, popM, catF, catF.lstM, mChain, tAll, wipeM, mdK, Prod.mk.injEq, and_assoc, List.map_cons, List.map_nil, List.length_cons, List.length_nil, List.replicate, List.cons_append, List.nil_append, List.getElem?_cons_zero, List.getElem?_cons_succ, List.set_cons_zero, List.set_cons_succ, Option.some.injEq, exists_eq_left', exists_eq_left, true_and, and_true, List.cons.injEq, MV.int.injEq, MV.bl.injEq, MV.tup.injEq, MV.fl.injEq, MV.str.injEq, MV.ref.injEq, Option.bind_some, exists_and_left, exists_const, Nat.sub_self, Nat.reduceSub, Nat.reduceAdd, List.append_nil, List.nil_append, List.length_map, Nat.add_zero, Nat.zero_add]
      refine bl_end hh ?_
      have : memberB ss (.tup xs) = false := by
        unfold memberB
        split
        · simp_all
        · rfl
      rwa [this] at k
  all_goals (simp only [getK, setK, Option.isSome_some, eqM_int, neM_int, kit_ii, kit_bi, kit_ni, kit_si, kit_ti, kit_li, kit_ib, kit_bb, kit_tt, kit_it, kit_bt, kit_nt, kit_st, kit_lt, atI0, atI1, atI2, ixN30, ixN31, ixN32, mFn, startM, mSeq, mIf, mAsg, mRet, mRetN, mDrop, mNext, gN, gT, gsCons, gsNil, gIx, mVar, mInt, mBl, mNon, mStr, mC, mOp1, mOp2, int2, plusM, addM, mulM2, negM, isM, isNotM, isNotM2, isM2, mAug, rg1, rg2, mLstRg, mLstRgC, mTupRg, isNoneM, tV, tNo, tAn, Mini.tOr, mAnd, mOr, mNot, Mini.notM, Bool.not_false, Bool.not_true, Bool.false_eq_true, if_false, if_true, reduceIte, mIfE, aNil, aCons, mTup, mLst, mLstC, mSl, slM, pNo, pAt, mB, mCall, lenM, listM, listMC, tupleM, intM, boolM, ixM, ixV, seqOf, lstOf, Mini.cellOf, mPar, mPar3, mLc, mLcC, mFor, iSeq, Mini.iRng1, Mini.iRng2, Mini.iEnum, Mini.iZip, mIsi, isiM, tyM, mMt, mMt0, appendM, extendM, popM, catF, catF.lstM, mChain, tAll, wipeM, mdK, Prod.mk.injEq, and_assoc, List.map_cons, List.map_nil, List.length_cons, List.length_nil, List.replicate, List.cons_append, List.nil_append, List.getElem?_cons_zero, List.getElem?_cons_succ, List.set_cons_zero, List.set_cons_succ, Option.some.injEq, exists_eq_left', exists_eq_left, true_and, and_true, List.cons.injEq, MV.int.injEq, MV.bl.injEq, MV.tup.injEq, MV.fl.injEq, MV.str.injEq, MV.ref.injEq, Option.bind_some, exists_and_left, exists_const, Nat.sub_self, Nat.reduceSub, Nat.reduceAdd, List.append_nil, List.nil_append, List.length_map, Nat.add_zero, Nat.zero_add]; exact bl_end hh k)

open PySem.W
def wv (p : T5) : MV := .tup [.tup [.int p.1, .int p.2.1], .tup [.int p.2.2.1, .int p.2.2.2.1], .int p.2.2.2.2]
theorem wv_inj {p q : T5} (h : wv p = wv q) : p = q := by
  obtain ⟨a, b, c, d, e⟩ := p
  obtain ⟨a', b', c', d', e'⟩ := q
  simp only [wv, MV.tup.injEq, List.cons.injEq, MV.int.injEq, and_true] at h
  obtain ⟨⟨h1, h2⟩, ⟨h3, h4⟩, h5⟩ := h
  subst h1 h2 h3 h4 h5
  rfl
def wk (p : T5) : NestedKey := .tup [.tup [.num p.1, .num p.2.1], .tup [.num p.2.2.1, .num p.2.2.2.1], .num p.2.2.2.2]
theorem wv_key (p : T5) : (wv p).key = some (wk p) := rfl
theorem wk_inj {p q : T5} (h : wk p = wk q) : p = q := by
  obtain ⟨a, b, c, d, e⟩ := p
  obtain ⟨a', b', c', d', e'⟩ := q
  simp only [wk, NestedKey.tup.injEq, List.cons.injEq, NestedKey.num.injEq, and_true] at h
  obtain ⟨⟨h1, h2⟩, ⟨h3, h4⟩, h5⟩ := h
  subst h1 h2 h3 h4 h5
  rfl
theorem wv_set (p : T5) : setOk (wv p) := ⟨_, wk p, rfl, rfl, by simp [wk, NestedKey.depth, NestedKey.depthAll], by simp [wk, nkNum, nkNumAll]⟩
theorem wv_sok (p : T5) : (wv p).sok = true := by simp [wv, MV.sok, sokAll]
theorem wv_dep (p : T5) : (wv p).dat.depth ≤ 50 := by simp [wv, MV.dat, datAll, PyData.depth, PyData.depthAll]
theorem wv_sok_all (es : List T5) : sokAll (es.map wv) = true := sokAll_iff.mpr fun x hx => by
  obtain ⟨p, _, rfl⟩ := List.mem_map.mp hx
  exact wv_sok p
theorem wv_sort {es : List T5} (hl : es.length ≤ 16777216) : SortOk (es.map wv) where
  sok := wv_sok_all es
  al := fun d hd d' hd' => by
    rw [List.map_map] at hd hd'
    obtain ⟨p, _, rfl⟩ := List.mem_map.mp hd
    obtain ⟨q, _, rfl⟩ := List.mem_map.mp hd'
    simp [wv, MV.dat, datAll, alike, alikeAll]
  so := .inl fun d hd => by
    rw [List.map_map] at hd
    obtain ⟨p, _, rfl⟩ := List.mem_map.mp hd
    exact ⟨_, _, rfl⟩
  dp := fun x hx => by
    obtain ⟨p, _, rfl⟩ := List.mem_map.mp hx
    exact wv_dep p
  len := by rw [List.length_map, sizeLine_eq]; exact hl
abbrev leW (p q : T5) : Bool := sLe (wv p) (wv q)
theorem lewv_total : TotalLe leW := by
  have h := sortLe_total (listOrd itemOrd) false (fun p : T5 => keyToks (wv p).dat)
  exact h
theorem lewv_anti {p q : T5} (h1 : leW p q = true) (h2 : leW q p = true) : p = q := by
  have e1 : PyProof.Rows.lexLt itemOrd (keyToks (wv q).dat) (keyToks (wv p).dat) = false := by
    have : (!PyProof.Rows.lexLt itemOrd (keyToks (wv q).dat) (keyToks (wv p).dat)) = true := h1
    simpa using this
  have e2 : PyProof.Rows.lexLt itemOrd (keyToks (wv p).dat) (keyToks (wv q).dat) = false := by
    have : (!PyProof.Rows.lexLt itemOrd (keyToks (wv p).dat) (keyToks (wv q).dat)) = true := h2
    simpa using this
  have e := lex_total _ _ e2 e1
  obtain ⟨a, b, c, d, e5⟩ := p
  obtain ⟨a', b', c', d', e5'⟩ := q
  simp [wv, MV.dat, datAll, keyToks, keyToksAll] at e
  obtain ⟨q1, q2, q3, q4, q5⟩ := e
  subst q1 q2 q3 q4 q5
  rfl
def srt (es : List T5) : List T5 := es.mergeSort leW
theorem srt_W (es : List T5) : (es.map wv).mergeSort sLe = (srt es).map wv := (sort_maps wv fun a _ b _ => rfl).symm
theorem srt_perm {es fs : List T5} (p : es.Perm fs) : srt es = srt fs :=
  eq_of_sorted (le := fun a b => leW a b = true) (fun a b => lewv_anti) (((List.mergeSort_perm es leW).trans p).trans (List.mergeSort_perm fs leW).symm) (sort_pairwise lewv_total es) (sort_pairwise lewv_total fs)

def asc (es : List T5) : List T5 := srt es.eraseDups
theorem pre_wv {es : List T5} : ∀ {zs : List MV}, (∀ z ∈ zs, z ∈ es.map wv) → ∃ fs : List T5, zs = fs.map wv ∧ ∀ f ∈ fs, f ∈ es
  | [], _ => ⟨[], rfl, fun _ h => nomatch h⟩
  | z :: zs, h => by
    obtain ⟨fs, e, hf⟩ := pre_wv fun y hy => h y (List.mem_cons_of_mem _ hy)
    obtain ⟨p, hp, rfl⟩ := List.mem_map.mp (h z List.mem_cons_self)
    refine ⟨p :: fs, by rw [e] <;> rfl, fun f hf' => ?_⟩
    rcases List.mem_cons.mp hf' with e | hf'
    · rw [e]; exact hp
    · exact hf f hf'
theorem wv_keys (fs : List T5) : (fs.map wv).map MV.key = fs.map fun p => some (wk p) := by rw [List.map_map] <;> rfl
theorem nodup_eraseDups (es : List T5) : es.eraseDups.Nodup := by
  have key : ∀ (n : Nat) (es : List T5), es.length ≤ n → es.eraseDups.Nodup := by
    intro n
    induction n with
    | zero => intro es h; rw [List.eq_nil_of_length_eq_zero (Nat.le_zero.mp h)]; simp
    | succ n ih =>
      intro es h
      cases es with
      | nil => simp
      | cons a es =>
        rw [List.eraseDups_cons, List.nodup_cons]
        refine ⟨fun hm => ?_, ih _ (Nat.le_trans (List.length_filter_le _ _) (by simpa using h))⟩
        have := List.mem_eraseDups.mp hm
        simp at this
  exact key es.length es (Nat.le_refl _)
theorem set_run {es : List T5} {v : MV} {h : MHp} (hv : seqOf h v = some (es.map wv)) (hl : es.length < 64) {R : MQ} (k : R (.fl ((asc es).map wv)) h) : setM [v] h (fun z h1 => sortSetM [z] h1 R) := by
  refine ⟨v, es.map wv, rfl, hv, by rw [List.length_map]; exact hl, fun x hx => ?_, fun zs h1 h2 h3 h4 => ⟨_, zs, rfl, rfl, ?_, fun ys pm => ?_⟩⟩
  · obtain ⟨p, _, rfl⟩ := List.mem_map.mp hx
    exact wv_set p
  · obtain ⟨fs, rfl, hf⟩ := pre_wv h1
    exact wv_sort (by rw [List.length_map, List.length_map] at h4; omega)
  · obtain ⟨fs, rfl, hf⟩ := pre_wv h1
    obtain ⟨gs, rfl, hg⟩ := pre_wv (es := fs) fun z hz => pm.mem_iff.mp hz
    rw [srt_W]
    have e : srt gs = asc es := by
      refine srt_perm ?_
      have nf : fs.Nodup := by
        rw [wv_keys] at h3
        exact (List.pairwise_map.mp h3).imp fun hne e => hne (by rw [e])
      have p2 : gs.Perm fs := by
        have kk := pm.map MV.key
        rw [wv_keys, wv_keys] at kk
        have ng : gs.Nodup := by
          have : (gs.map fun p => some (wk p)).Nodup := kk.nodup_iff.mpr (by rw [← wv_keys]; exact h3)
          exact (List.pairwise_map.mp this).imp fun hne e => hne (by rw [e])
        refine (List.perm_ext_iff_of_nodup ng nf).mpr fun p => ⟨hg p, fun hp => ?_⟩
        have : wv p ∈ gs.map wv := pm.mem_iff.mpr (List.mem_map.mpr ⟨p, hp, rfl⟩)
        obtain ⟨q, hq, e⟩ := List.mem_map.mp this
        rwa [← wv_inj e]
      refine p2.trans ((List.perm_ext_iff_of_nodup nf (nodup_eraseDups es)).mpr fun p => ⟨fun hp => List.mem_eraseDups.mpr (hf p hp), fun hp => ?_⟩)
      have hm := h2 (wv p) (List.mem_map.mpr ⟨p, List.mem_eraseDups.mp hp, rfl⟩)
      rw [wv_keys] at hm
      obtain ⟨q, hq, e⟩ := List.mem_map.mp hm
      have : wk q = wk p := by rw [wv_key] at e; exact Option.some.inj e
      rwa [← wk_inj this]
    rw [e]
    exact k
theorem wv_eqv (p q : T5) : (wv p).eqv (wv q) = decide (p = q) := by
  obtain ⟨a, b, c, d, e⟩ := p
  obtain ⟨a', b', c', d', e'⟩ := q
  simp only [wv, MV.eqv, eqvAll, List.isEmpty_nil, Bool.and_true, Prod.mk.injEq]
  by_cases h1 : a = a' <;> by_cases h2 : b = b' <;> by_cases h3 : c = c' <;> by_cases h4 : d = d' <;> by_cases h5 : e = e' <;> simp [h1, h2, h3, h4, h5]
theorem wv_eqvAll : ∀ es fs : List T5, eqvAll (es.map wv) (fs.map wv) = decide (es = fs)
  | [], [] => rfl
  | [], _ :: _ => by simp [eqvAll]
  | _ :: _, [] => by simp [eqvAll]
  | p :: es, q :: fs => by
    simp only [List.map_cons, eqvAll, wv_eqv, wv_eqvAll es fs, List.cons.injEq]
    by_cases h1 : p = q <;> by_cases h2 : es = fs <;> simp [h1, h2]
theorem wv_depn (p : T5) : (wv p).dep = 2 := by simp [wv, MV.dep, depAll]
theorem wv_depAll : ∀ es : List T5, depAll (es.map wv) ≤ 2
  | [] => by simp [depAll]
  | p :: es => by
    simp only [List.map_cons, depAll, wv_depn]
    have := wv_depAll es
    omega
theorem wv_okL (es : List T5) : (MV.fl (es.map wv)).ok = true := by
  have := wv_depAll es
  have e1 : (MV.fl (es.map wv)).sok = true := by simp only [MV.sok]; exact wv_sok_all es
  have e2 : (MV.fl (es.map wv)).dep ≤ 60 := by simp only [MV.dep]; omega
  unfold MV.ok
  rw [e1, decide_eq_true e2] <;> rfl
theorem eq_wv {es fs : List T5} {h : MHp} {Q : MQ} (k : Q (.bl (decide (es = fs))) h) : eqM (.fl (es.map wv)) (.fl (fs.map wv)) h Q := by
  refine .inr ⟨wv_okL es, wv_okL fs, ?_⟩
  show Q (.bl (eqvAll (es.map wv) (fs.map wv))) h
  rw [wv_eqvAll]
  exact k
theorem ascending_ok {es : List T5} (hl : es.length < 64) {h : MHp} (hh : Hh h) {Q E : MQ} (k : Q (.bl (decide (es = asc es))) h) : f_is_ascending [.tup (es.map wv)] h Q E := by
  simp only [f_is_ascending, b_is_ascending, getK, setK, Option.isSome_some, eqM_int, neM_int, kit_ii, kit_bi, kit_ni, kit_si, kit_ti, kit_li, kit_ib, kit_bb, kit_tt, kit_it, kit_bt, kit_nt, kit_st, kit_lt, atI0, atI1, atI2, ixN30, ixN31, ixN32, mFn, startM, mSeq, mIf, mAsg, mRet, mRetN, mDrop, mNext, gN, gT, gsCons, gsNil, gIx, mVar, mInt, mBl, mNon, mStr, mC, mOp1, mOp2, int2, plusM, addM, mulM2, negM, isM, isNotM, isNotM2, isM2, mAug, rg1, rg2, mLstRg, mLstRgC, mTupRg, isNoneM, tV, tNo, tAn, Mini.tOr, mAnd, mOr, mNot, Mini.notM, Bool.not_false, Bool.not_true, Bool.false_eq_true, if_false, if_true, reduceIte, mIfE, aNil, aCons, mTup, mLst, mLstC, mSl, slM, pNo, pAt, mB, mCall, lenM, listM, listMC, tupleM, intM, boolM, ixM, ixV, seqOf, lstOf, Mini.cellOf, mPar, mPar3, mLc, mLcC, mFor, iSeq, Mini.iRng1, Mini.iRng2, Mini.iEnum, Mini.iZip, mIsi, isiM, tyM, mMt, mMt0, appendM, extendM, popM, catF, catF.lstM, mChain, tAll, wipeM, mdK, Prod.mk.injEq, and_assoc, List.map_cons, List.map_nil, List.length_cons, List.length_nil, List.replicate, List.cons_append, List.nil_append, List.getElem?_cons_zero, List.getElem?_cons_succ, List.set_cons_zero, List.set_cons_succ, Option.some.injEq, exists_eq_left', exists_eq_left, true_and, and_true, List.cons.injEq, MV.int.injEq, MV.bl.injEq, MV.tup.injEq, MV.fl.injEq, MV.str.injEq, MV.ref.injEq, Option.bind_some, exists_and_left, exists_const, Nat.sub_self, Nat.reduceSub, Nat.reduceAdd, List.append_nil, List.nil_append, List.length_map, Nat.add_zero, Nat.zero_add]
  refine set_run rfl hl ?_
  exact eq_wv (bl_end hh k)

def hd (v : MV) : Int := match v with
  | .tup (.int i :: _) => i
  | _ => 0
def waitB (ss : List Int) (v : MV) : Bool := match v with
  | .tup [a, b, c] => memberB ss a && (memberB ss b && ((!(hd a == hd b)) && wholeB c 0 3))
  | _ => false
theorem wholeB_int {v : MV} {lo hi : Int} (h : wholeB v lo hi = true) : ∃ i, v = .int i ∧ lo ≤ i ∧ i ≤ hi := by
  cases v <;> first | (simp [wholeB] at h; done) | skip
  case int i =>
    simp only [wholeB, Bool.and_eq_true, decide_eq_true_eq] at h
    exact ⟨i, rfl, h.1, h.2⟩
theorem memberB_shape {ss : List Int} {v : MV} (h : memberB ss v = true) : ∃ i j, v = .tup [.int i, .int j] ∧ 0 ≤ i ∧ i ≤ (ss.length : Int) - 1 ∧ 0 ≤ j ∧ j ≤ ss.getD i.toNat 0 - 1 := by
  unfold memberB at h
  split at h
  · simp only [Bool.and_eq_true, decide_eq_true_eq] at h
    obtain ⟨j, rfl, h3, h4⟩ := wholeB_int h.2
    exact ⟨_, j, rfl, h.1.1, h.1.2, h3, h4⟩
  · simp at h
theorem waitB_len {ss : List Int} {xs : List MV} (h : xs.length ≠ 3) : waitB ss (.tup xs) = false := by
  unfold waitB
  split
  · simp_all
  · rfl
theorem linked_ok {ss : List Int} {v : MV} {h : MHp} (hh : Hh h) (hv : v.sok = true) {Q E : MQ} (k : Q (.bl (waitB ss v)) h) : f_is_linked_wait [.tup (ss.map .int), v] h Q E := by
  simp only [f_is_linked_wait, b_is_linked_wait, getK, setK, Option.isSome_some, eqM_int, neM_int, kit_ii, kit_bi, kit_ni, kit_si, kit_ti, kit_li, kit_ib, kit_bb, kit_tt, kit_it, kit_bt, kit_nt, kit_st, kit_lt, atI0, atI1, atI2, ixN30, ixN31, ixN32, mFn, startM, mSeq, mIf, mAsg, mRet, mRetN, mDrop, mNext, gN, gT, gsCons, gsNil, gIx, mVar, mInt, mBl, mNon, mStr, mC, mOp1, mOp2, int2, plusM, addM, mulM2, negM, isM, isNotM, isNotM2, isM2, mAug, rg1, rg2, mLstRg, mLstRgC, mTupRg, isNoneM, tV, tNo, tAn, Mini.tOr, mAnd, mOr, mNot, Mini.notM, Bool.not_false, Bool.not_true, Bool.false_eq_true, if_false, if_true, reduceIte, mIfE, aNil, aCons, mTup, mLst, mLstC, mSl, slM, pNo, pAt, mB, mCall, lenM, listM, listMC, tupleM, intM, boolM, ixM, ixV, seqOf, lstOf, Mini.cellOf, mPar, mPar3, mLc, mLcC, mFor, iSeq, Mini.iRng1, Mini.iRng2, Mini.iEnum, Mini.iZip, mIsi, isiM, tyM, mMt, mMt0, appendM, extendM, popM, catF, catF.lstM, mChain, tAll, wipeM, mdK, Prod.mk.injEq, and_assoc, List.map_cons, List.map_nil, List.length_cons, List.length_nil, List.replicate, List.cons_append, List.nil_append, List.getElem?_cons_zero, List.getElem?_cons_succ, List.set_cons_zero, List.set_cons_succ, Option.some.injEq, exists_eq_left', exists_eq_left, true_and, and_true, List.cons.injEq, MV.int.injEq, MV.bl.injEq, MV.tup.injEq, MV.fl.injEq, MV.str.injEq, MV.ref.injEq, Option.bind_some, exists_and_left, exists_const, Nat.sub_self, Nat.reduceSub, Nat.reduceAdd, List.append_nil, List.nil_append, List.length_map, Nat.add_zero, Nat.zero_add]
  cases v <;> first | (simp [MV.sok] at hv; done) | skip
  case tup xs =>
    simp only [getK, setK, Option.isSome_some, eqM_int, neM_int, kit_ii, kit_bi, kit_ni, kit_si, kit_ti, kit_li, kit_ib, kit_bb, kit_tt, kit_it, kit_bt, kit_nt, kit_st, kit_lt, atI0, atI1, atI2, ixN30, ixN31, ixN32, mFn, startM, mSeq, mIf, mAsg, mRet, mRetN, mDrop, mNext, gN, gT, gsCons, gsNil, gIx, mVar, mInt, mBl, mNon, mStr, mC, mOp1, mOp2, int2, plusM, addM, mulM2, negM, isM, isNotM, isNotM2, isM2, mAug, rg1, rg2, mLstRg, mLstRgC, mTupRg, isNoneM, tV, tNo, tAn, Mini.tOr, mAnd, mOr, mNot, Mini.notM, Bool.not_false, Bool.not_true, Bool.false_eq_true, if_false, if_true, reduceIte, mIfE, aNil, aCons, mTup, mLst, mLstC, mSl, slM, pNo, pAt, mB, mCall, lenM, listM, listMC, tupleM, intM, boolM, ixM, ixV, seqOf, lstOf, Mini.cellOf, mPar, mPar3, mLc, mLcC, mFor, iSeq, Mini.iRng1, Mini.iRng2, Mini.iEnum, Mini.iZip, mIsi, isiM, tyM, mMt, mMt0, appendM, extendM, popM, catF, catF.lstM, mChain, tAll, wipeM, mdK, Prod.mk.injEq, and_assoc, List.map_cons, List.map_nil, List.length_cons, List.length_nil, List.replicate, List.cons_append, List.nil_append, List.getElem?_cons_zero, List.getElem?_cons_succ, List.set_cons_zero, List.set_cons_succ, Option.some.injEq, exists_eq_left', exists_eq_left, true_and, and_true, List.cons.injEq, MV.int.injEq, MV.bl.injEq, MV.tup.injEq, MV.fl.injEq, MV.str.injEq, MV.ref.injEq, Option.bind_some, exists_and_left, exists_const, Nat.sub_self, Nat.reduceSub, Nat.reduceAdd, List.append_nil, List.nil_append, List.length_map, Nat.add_zero, Nat.zero_add]
    by_cases hl : xs.length = 3
    · obtain ⟨a, b, c, rfl⟩ := len3 hl
      obtain ⟨ha, hb, hc⟩ := sok3 hv
      simp only [getK, setK, Option.isSome_some, eqM_int, neM_int, kit_ii, kit_bi, kit_ni, kit_si, kit_ti, kit_li, kit_ib, kit_bb, kit_tt, kit_it, kit_bt, kit_nt, kit_st, kit_lt, atI0, atI1, atI2, ixN30, ixN31, ixN32, mFn, startM, mSeq, mIf, mAsg, mRet, mRetN, mDrop, mNext, gN, gT, gsCons, gsNil, gIx, mVar, mInt, mBl, mNon, mStr, mC, mOp1, mOp2, int2, plusM, addM, mulM2, negM, isM, isNotM, isNotM2, isM2, mAug, rg1, rg2, mLstRg, mLstRgC, mTupRg, isNoneM, tV, tNo, tAn, Mini.tOr, mAnd, mOr, mNot, Mini.notM, Bool.not_false, Bool.not_true, Bool.false_eq_true, if_false, if_true, reduceIte, mIfE, aNil, aCons, mTup, mLst, mLstC, mSl, slM, pNo, pAt, mB, mCall, lenM, listM, listMC, tupleM, intM, boolM, ixM, ixV, seqOf, lstOf, Mini.cellOf, mPar, mPar3, mLc, mLcC, mFor, iSeq, Mini.iRng1, Mini.iRng2, Mini.iEnum, Mini.iZip, mIsi, isiM, tyM, mMt, mMt0, appendM, extendM, popM, catF, catF.lstM, mChain, tAll, wipeM, mdK, Prod.mk.injEq, and_assoc, List.map_cons, List.map_nil, List.length_cons, List.length_nil, List.replicate, List.cons_append, List.nil_append, List.getElem?_cons_zero, List.getElem?_cons_succ, List.set_cons_zero, List.set_cons_succ, Option.some.injEq, exists_eq_left', exists_eq_left, true_and, and_true, List.cons.injEq, MV.int.injEq, MV.bl.injEq, MV.tup.injEq, MV.fl.injEq, MV.str.injEq, MV.ref.injEq, Option.bind_some, exists_and_left, exists_const, Nat.sub_self, Nat.reduceSub, Nat.reduceAdd, List.append_nil, List.nil_append, List.length_map, Nat.add_zero, Nat.zero_add]
      rw [if_neg (by decide)]
      refine job_ok hh ha ⟨_, rfl, ?_⟩
      cases m1 : memberB ss a with
      | false =>
        simp only [getK, setK, Option.isSome_some, eqM_int, neM_int, kit_ii, kit_bi, kit_ni, kit_si, kit_ti, kit_li, kit_ib, kit_bb, kit_tt, kit_it, kit_bt, kit_nt, kit_st, kit_lt, atI0, atI1, atI2, ixN30, ixN31, ixN32, mFn, startM, mSeq, mIf, mAsg, mRet, mRetN, mDrop, mNext, gN, gT, gsCons, gsNil, gIx, mVar, mInt, mBl, mNon, mStr, mC, mOp1, mOp2, int2, plusM, addM, mulM2, negM, isM, isNotM, isNotM2, isM2, mAug, rg1, rg2, mLstRg, mLstRgC, mTupRg, isNoneM, tV, tNo, tAn, Mini.tOr, mAnd, mOr, mNot, Mini.notM, Bool.not_false, Bool.not_true, Bool.false_eq_true, if_false, if_true, reduceIte, mIfE, aNil, aCons, mTup, mLst, mLstC, mSl, slM, pNo, pAt, mB, mCall, lenM, listM, listMC, tupleM, intM, boolM, ixM, ixV, seqOf, lstOf, Mini.cellOf, mPar, mPar3, mLc, mLcC, mFor, iSeq, Mini.iRng1, Mini.iRng2, Mini.iEnum, Mini.iZip, mIsi, isiM, tyM, mMt, mMt0, appendM, extendM, popM, catF, catF.lstM, mChain, tAll, wipeM, mdK, Prod.mk.injEq, and_assoc, List.map_cons, List.map_nil, List.length_cons, List.length_nil, List.replicate, List.cons_append, List.nil_append, List.getElem?_cons_zero, List.getElem?_cons_succ, List.set_cons_zero, List.set_cons_succ, Option.some.injEq, exists_eq_left', exists_eq_left, true_and, and_true, List.cons.injEq, MV.int.injEq, MV.bl.injEq, MV.tup.injEq, MV.fl.injEq, MV.str.injEq, MV.ref.injEq, Option.bind_some, exists_and_left, exists_const, Nat.sub_self, Nat.reduceSub, Nat.reduceAdd, List.append_nil, List.nil_append, List.length_map, Nat.add_zero, Nat.zero_add]
        refine bl_end hh ?_
        simpa only [waitB, m1, Bool.false_and] using k
      | true =>
        simp only [getK, setK, Option.isSome_some, eqM_int, neM_int, kit_ii, kit_bi, kit_ni, kit_si, kit_ti, kit_li, kit_ib, kit_bb, kit_tt, kit_it, kit_bt, kit_nt, kit_st, kit_lt, atI0, atI1, atI2, ixN30, ixN31, ixN32, mFn, startM, mSeq, mIf, mAsg, mRet, mRetN, mDrop, mNext, gN, gT, gsCons, gsNil, gIx, mVar, mInt, mBl, mNon, mStr, mC, mOp1, mOp2, int2, plusM, addM, mulM2, negM, isM, isNotM, isNotM2, isM2, mAug, rg1, rg2, mLstRg, mLstRgC, mTupRg, isNoneM, tV, tNo, tAn, Mini.tOr, mAnd, mOr, mNot, Mini.notM, Bool.not_false, Bool.not_true, Bool.false_eq_true, if_false, if_true, reduceIte, mIfE, aNil, aCons, mTup, mLst, mLstC, mSl, slM, pNo, pAt, mB, mCall, lenM, listM, listMC, tupleM, intM, boolM, ixM, ixV, seqOf, lstOf, Mini.cellOf, mPar, mPar3, mLc, mLcC, mFor, iSeq, Mini.iRng1, Mini.iRng2, Mini.iEnum, Mini.iZip, mIsi, isiM, tyM, mMt, mMt0, appendM, extendM, popM, catF, catF.lstM, mChain, tAll, wipeM, mdK, Prod.mk.injEq, and_assoc, List.map_cons, List.map_nil, List.length_cons, List.length_nil, List.replicate, List.cons_append, List.nil_append, List.getElem?_cons_zero, List.getElem?_cons_succ, List.set_cons_zero, List.set_cons_succ, Option.some.injEq, exists_eq_left', exists_eq_left, true_and, and_true, List.cons.injEq, MV.int.injEq, MV.bl.injEq, MV.tup.injEq, MV.fl.injEq, MV.str.injEq, MV.ref.injEq, Option.bind_some, exists_and_left, exists_const, Nat.sub_self, Nat.reduceSub, Nat.reduceAdd, List.append_nil, List.nil_append, List.length_map, Nat.add_zero, Nat.zero_add]
        refine job_ok hh hb ⟨_, rfl, ?_⟩
        cases m2 : memberB ss b with
        | false =>
          simp only [getK, setK, Option.isSome_some, eqM_int, neM_int, kit_ii, kit_bi, kit_ni, kit_si, kit_ti, kit_li, kit_ib, kit_bb, kit_tt, kit_it, kit_bt, kit_nt, kit_st, kit_lt, atI0, atI1, atI2, ixN30, ixN31, ixN32, mFn, startM, mSeq, mIf, mAsg, mRet, mRetN, mDrop, mNext, gN, gT, gsCons, gsNil, gIx, mVar, mInt, mBl, mNon, mStr, mC, mOp1, mOp2, int2, plusM, addM, mulM2, negM, isM, isNotM, isNotM2, isM2, mAug, rg1, rg2, mLstRg, mLstRgC, mTupRg, isNoneM, tV, tNo, tAn, Mini.tOr, mAnd, mOr, mNot, Mini.notM, Bool.not_false, Bool.not_true, Bool.false_eq_true, if_false, if_true, reduceIte, mIfE, aNil, aCons, mTup, mLst, mLstC, mSl, slM, pNo, pAt, mB, mCall, lenM, listM, listMC, tupleM, intM, boolM, ixM, ixV, seqOf, lstOf, Mini.cellOf, mPar, mPar3, mLc, mLcC, mFor, iSeq, Mini.iRng1, Mini.iRng2, Mini.iEnum, Mini.iZip, mIsi, isiM, tyM, mMt, mMt0, appendM, extendM, popM, catF, catF.lstM, mChain, tAll, wipeM, mdK, Prod.mk.injEq, and_assoc, List.map_cons, List.map_nil, List.length_cons, List.length_nil, List.replicate, List.cons_append, List.nil_append, List.getElem?_cons_zero, List.getElem?_cons_succ, List.set_cons_zero, List.set_cons_succ, Option.some.injEq, exists_eq_left', exists_eq_left, true_and, and_true, List.cons.injEq, MV.int.injEq, MV.bl.injEq, MV.tup.injEq, MV.fl.injEq, MV.str.injEq, MV.ref.injEq, Option.bind_some, exists_and_left, exists_const, Nat.sub_self, Nat.reduceSub, Nat.reduceAdd, List.append_nil, List.nil_append, List.length_map, Nat.add_zero, Nat.zero_add]
          refine bl_end hh ?_
          simpa only [waitB, m1, m2, Bool.true_and, Bool.false_and] using k
        | true =>
          obtain ⟨i, j, rfl, _⟩ := memberB_shape m1
          obtain ⟨i', j', rfl, _⟩ := memberB_shape m2
          simp only [getK, setK, Option.isSome_some, eqM_int, neM_int, kit_ii, kit_bi, kit_ni, kit_si, kit_ti, kit_li, kit_ib, kit_bb, kit_tt, kit_it, kit_bt, kit_nt, kit_st, kit_lt, atI0, atI1, atI2, ixN30, ixN31, ixN32, mFn, startM, mSeq, mIf, mAsg, mRet, mRetN, mDrop, mNext, gN, gT, gsCons, gsNil, gIx, mVar, mInt, mBl, mNon, mStr, mC, mOp1, mOp2, int2, plusM, addM, mulM2, negM, isM, isNotM, isNotM2, isM2, mAug, rg1, rg2, mLstRg, mLstRgC, mTupRg, isNoneM, tV, tNo, tAn, Mini.tOr, mAnd, mOr, mNot, Mini.notM, Bool.not_false, Bool.not_true, Bool.false_eq_true, if_false, if_true, reduceIte, mIfE, aNil, aCons, mTup, mLst, mLstC, mSl, slM, pNo, pAt, mB, mCall, lenM, listM, listMC, tupleM, intM, boolM, ixM, ixV, seqOf, lstOf, Mini.cellOf, mPar, mPar3, mLc, mLcC, mFor, iSeq, Mini.iRng1, Mini.iRng2, Mini.iEnum, Mini.iZip, mIsi, isiM, tyM, mMt, mMt0, appendM, extendM, popM, catF, catF.lstM, mChain, tAll, wipeM, mdK, Prod.mk.injEq, and_assoc, List.map_cons, List.map_nil, List.length_cons, List.length_nil, List.replicate, List.cons_append, List.nil_append, List.getElem?_cons_zero, List.getElem?_cons_succ, List.set_cons_zero, List.set_cons_succ, Option.some.injEq, exists_eq_left', exists_eq_left, true_and, and_true, List.cons.injEq, MV.int.injEq, MV.bl.injEq, MV.tup.injEq, MV.fl.injEq, MV.str.injEq, MV.ref.injEq, Option.bind_some, exists_and_left, exists_const, Nat.sub_self, Nat.reduceSub, Nat.reduceAdd, List.append_nil, List.nil_append, List.length_map, Nat.add_zero, Nat.zero_add]
          have k' := k
          simp only [waitB, m1, m2, hd, Bool.true_and] at k'
          cases e : (i == i') with
          | true =>
            simp only [getK, setK, Option.isSome_some, eqM_int, neM_int, kit_ii, kit_bi, kit_ni, kit_si, kit_ti, kit_li, kit_ib, kit_bb, kit_tt, kit_it, kit_bt, kit_nt, kit_st, kit_lt, atI0, atI1, atI2, ixN30, ixN31, ixN32, mFn, startM, mSeq, mIf, mAsg, mRet, mRetN, mDrop, mNext, gN, gT, gsCons, gsNil, gIx, mVar, mInt, mBl, mNon, mStr, mC, mOp1, mOp2, int2, plusM, addM, mulM2, negM, isM, isNotM, isNotM2, isM2, mAug, rg1, rg2, mLstRg, mLstRgC, mTupRg, isNoneM, tV, tNo, tAn, Mini.tOr, mAnd, mOr, mNot, Mini.notM, Bool.not_false, Bool.not_true, Bool.false_eq_true, if_false, if_true, reduceIte, mIfE, aNil, aCons, mTup, mLst, mLstC, mSl, slM, pNo, pAt, mB, mCall, lenM, listM, listMC, tupleM, intM, boolM, ixM, ixV, seqOf, lstOf, Mini.cellOf, mPar, mPar3, mLc, mLcC, mFor, iSeq, Mini.iRng1, Mini.iRng2, Mini.iEnum, Mini.iZip, mIsi, isiM, tyM, mMt, mMt0, appendM, extendM, popM, catF, catF.lstM, mChain, tAll, wipeM, mdK, Prod.mk.injEq, and_assoc, List.map_cons, List.map_nil, List.length_cons, List.length_nil, List.replicate, List.cons_append, List.nil_append, List.getElem?_cons_zero, List.getElem?_cons_succ, List.set_cons_zero, List.set_cons_succ, Option.some.injEq, exists_eq_left', exists_eq_left, true_and, and_true, List.cons.injEq, MV.int.injEq, MV.bl.injEq, MV.tup.injEq, MV.fl.injEq, MV.str.injEq, MV.ref.injEq, Option.bind_some, exists_and_left, exists_const, Nat.sub_self, Nat.reduceSub, Nat.reduceAdd, List.append_nil, List.nil_append, List.length_map, Nat.add_zero, Nat.zero_add]
            refine bl_end hh ?_
            simpa only [e, Bool.not_true, Bool.false_and] using k'
          | false =>
            simp only [getK, setK, Option.isSome_some, eqM_int, neM_int, kit_ii, kit_bi, kit_ni, kit_si, kit_ti, kit_li, kit_ib, kit_bb, kit_tt, kit_it, kit_bt, kit_nt, kit_st, kit_lt, atI0, atI1, atI2, ixN30, ixN31, ixN32, mFn, startM, mSeq, mIf, mAsg, mRet, mRetN, mDrop, mNext, gN, gT, gsCons, gsNil, gIx, mVar, mInt, mBl, mNon, mStr, mC, mOp1, mOp2, int2, plusM, addM, mulM2, negM, isM, isNotM, isNotM2, isM2, mAug, rg1, rg2, mLstRg, mLstRgC, mTupRg, isNoneM, tV, tNo, tAn, Mini.tOr, mAnd, mOr, mNot, Mini.notM, Bool.not_false, Bool.not_true, Bool.false_eq_true, if_false, if_true, reduceIte, mIfE, aNil, aCons, mTup, mLst, mLstC, mSl, slM, pNo, pAt, mB, mCall, lenM, listM, listMC, tupleM, intM, boolM, ixM, ixV, seqOf, lstOf, Mini.cellOf, mPar, mPar3, mLc, mLcC, mFor, iSeq, Mini.iRng1, Mini.iRng2, Mini.iEnum, Mini.iZip, mIsi, isiM, tyM, mMt, mMt0, appendM, extendM, popM, catF, catF.lstM, mChain, tAll, wipeM, mdK, Prod.mk.injEq, and_assoc, List.map_cons, List.map_nil, List.length_cons, List.length_nil, List.replicate, List.cons_append, List.nil_append, List.getElem?_cons_zero, List.getElem?_cons_succ, List.set_cons_zero, List.set_cons_succ, Option.some.injEq, exists_eq_left', exists_eq_left, true_and, and_true, List.cons.injEq, MV.int.injEq, MV.bl.injEq, MV.tup.injEq, MV.fl.injEq, MV.str.injEq, MV.ref.injEq, Option.bind_some, exists_and_left, exists_const, Nat.sub_self, Nat.reduceSub, Nat.reduceAdd, List.append_nil, List.nil_append, List.length_map, Nat.add_zero, Nat.zero_add]
            refine between_ok hh hc (bl_end hh ?_)
            simpa only [e, Bool.not_false, Bool.true_and] using k'
    · have e : ((xs.length : Int) == 3) = false := by simp; omega
      simp only [e, getK, setK, Option.isSome_some, eqM_int, neM_int, kit_ii, kit_bi, kit_ni, kit_si, kit_ti, kit_li, kit_ib, kit_bb, kit_tt, kit_it, kit_bt, kit_nt, kit_st, kit_lt, atI0, atI1, atI2, ixN30, ixN31, ixN32, mFn, startM, mSeq, mIf, mAsg, mRet, mRetN, mDrop, mNext, gN, gT, gsCons, gsNil, gIx, mVar, mInt, mBl, mNon, mStr, mC, mOp1, mOp2, int2, plusM, addM, mulM2, negM, isM, isNotM, isNotM2, isM2, mAug, rg1, rg2, mLstRg, mLstRgC, mTupRg, isNoneM, tV, tNo, tAn, Mini.tOr, mAnd, mOr, mNot, Mini.notM, Bool.not_false, Bool.not_true, Bool.false_eq_true, if_false, if_true, reduceIte, mIfE, aNil, aCons, mTup, mLst, mLstC, mSl, slM, pNo, pAt, mB, mCall, lenM, listM, listMC, tupleM, intM, boolM, ixM, ixV, seqOf, lstOf, Mini.cellOf, mPar, mPar3, mLc, mLcC, mFor, iSeq, Mini.iRng1, Mini.iRng2, Mini.iEnum, Mini.iZip, mIsi, isiM, tyM, mMt, mMt0, appendM, extendM, popM, catF, catF.lstM, mChain, tAll, wipeM, mdK, Prod.mk.injEq, and_assoc, List.map_cons, List.map_nil, List.length_cons, List.length_nil, List.replicate, List.cons_append, List.nil_append, List.getElem?_cons_zero, List.getElem?_cons_succ, List.set_cons_zero, List.set_cons_succ, Option.some.injEq, exists_eq_left', exists_eq_left, true_and, and_true, List.cons.injEq, MV.int.injEq, MV.bl.injEq, MV.tup.injEq, MV.fl.injEq, MV.str.injEq, MV.ref.injEq, Option.bind_some, exists_and_left, exists_const, Nat.sub_self, Nat.reduceSub, Nat.reduceAdd, List.append_nil, List.nil_append, List.length_map, Nat.add_zero, Nat.zero_add]
      refine bl_end hh ?_
      rwa [waitB_len hl] at k
  all_goals (simp only [getK, setK, Option.isSome_some, eqM_int, neM_int, kit_ii, kit_bi, kit_ni, kit_si, kit_ti, kit_li, kit_ib, kit_bb, kit_tt, kit_it, kit_bt, kit_nt, kit_st, kit_lt, atI0, atI1, atI2, ixN30, ixN31, ixN32, mFn, startM, mSeq, mIf, mAsg, mRet, mRetN, mDrop, mNext, gN, gT, gsCons, gsNil, gIx, mVar, mInt, mBl, mNon, mStr, mC, mOp1, mOp2, int2, plusM, addM, mulM2, negM, isM, isNotM, isNotM2, isM2, mAug, rg1, rg2, mLstRg, mLstRgC, mTupRg, isNoneM, tV, tNo, tAn, Mini.tOr, mAnd, mOr, mNot, Mini.notM, Bool.not_false, Bool.not_true, Bool.false_eq_true, if_false, if_true, reduceIte, mIfE, aNil, aCons, mTup, mLst, mLstC, mSl, slM, pNo, pAt, mB, mCall, lenM, listM, listMC, tupleM, intM, boolM, ixM, ixV, seqOf, lstOf, Mini.cellOf, mPar, mPar3, mLc, mLcC, mFor, iSeq, Mini.iRng1, Mini.iRng2, Mini.iEnum, Mini.iZip, mIsi, isiM, tyM, mMt, mMt0, appendM, extendM, popM, catF, catF.lstM, mChain, tAll, wipeM, mdK, Prod.mk.injEq, and_assoc, List.map_cons, List.map_nil, List.length_cons, List.length_nil, List.replicate, List.cons_append, List.nil_append, List.getElem?_cons_zero, List.getElem?_cons_succ, List.set_cons_zero, List.set_cons_succ, Option.some.injEq, exists_eq_left', exists_eq_left, true_and, and_true, List.cons.injEq, MV.int.injEq, MV.bl.injEq, MV.tup.injEq, MV.fl.injEq, MV.str.injEq, MV.ref.injEq, Option.bind_some, exists_and_left, exists_const, Nat.sub_self, Nat.reduceSub, Nat.reduceAdd, List.append_nil, List.nil_append, List.length_map, Nat.add_zero, Nat.zero_add]; exact bl_end hh k)
def sizesB (v : MV) : Bool := match v with
  | .tup xs => (decide (1 ≤ xs.length) && decide (xs.length ≤ 4)) && xs.all fun x => wholeB x 1 4
  | _ => false
theorem ints_of {xs : List MV} {lo hi : Int} : (xs.all fun x => wholeB x lo hi) = true → ∃ ss : List Int, xs = ss.map .int ∧ ∀ s ∈ ss, lo ≤ s ∧ s ≤ hi := by
  induction xs with
  | nil => intro _; exact ⟨[], rfl, fun _ h => nomatch h⟩
  | cons x xs ih =>
    intro h
    simp only [List.all_cons, Bool.and_eq_true] at h
    obtain ⟨ss, e, hs⟩ := ih h.2
    obtain ⟨i, rfl, h1, h2⟩ := wholeB_int h.1
    refine ⟨i :: ss, by rw [e] <;> rfl, fun s hs' => ?_⟩
    rcases List.mem_cons.mp hs' with e | hs'
    · rw [e]; exact ⟨h1, h2⟩
    · exact hs s hs'
theorem waits_of {ss : List Int} {ws : List MV} : ws.all (waitB ss) = true → ∃ es : List T5, ws = es.map wv := by
  induction ws with
  | nil => intro _; exact ⟨[], rfl⟩
  | cons w ws ih =>
    intro h
    simp only [List.all_cons, Bool.and_eq_true] at h
    obtain ⟨es, e⟩ := ih h.2
    have h1 := h.1
    unfold waitB at h1
    split at h1
    · simp only [Bool.and_eq_true] at h1
      obtain ⟨i, j, rfl, _⟩ := memberB_shape h1.1
      obtain ⟨i', j', rfl, _⟩ := memberB_shape h1.2.1
      obtain ⟨k, rfl, _⟩ := wholeB_int h1.2.2.2
      exact ⟨(i, j, i', j', k) :: es, by rw [e] <;> rfl⟩
    · simp at h1
def ascB (ws : List MV) : Prop := ∃ es : List T5, ws = es.map wv ∧ es = asc es
def toI (x : MV) : Int := match x with
  | .int i => i
  | _ => 0
open Classical in
noncomputable def planB (v : MV) : Bool := match v with
  | .tup [.tup xs, .tup ws] => sizesB (.tup xs) && (decide (ws.length ≤ 12) && (ws.all (waitB (xs.map toI)) && decide (ascB ws)))
  | _ => false
theorem wv_map_inj : ∀ {es fs : List T5}, es.map wv = fs.map wv → es = fs
  | [], [], _ => rfl
  | [], _ :: _, e => by simp at e
  | _ :: _, [], e => by simp at e
  | a :: es, f :: fs, e => by
    simp only [List.map_cons, List.cons.injEq] at e
    rw [wv_inj e.1, wv_map_inj e.2]
theorem ascB_iff {es : List T5} : ascB (es.map wv) ↔ es = asc es := by
  refine ⟨fun ⟨fs, e, h⟩ => ?_, fun h => ⟨es, rfl, h⟩⟩
  rw [wv_map_inj e]
  exact h
theorem sizes_back (ss : List Int) : (ss.map MV.int).map toI = ss := by
  rw [List.map_map]
  conv => rhs; rw [← List.map_id ss]
  exact List.map_congr_left fun x _ => rfl
def ysB (p : MV → Bool) (xs : List MV) : List MV := xs.filterMap fun x => some (.bl (p x))
theorem ysB_cons {p : MV → Bool} {x : MV} {xs : List MV} : ysB p (x :: xs) = .bl (p x) :: ysB p xs := rfl
theorem bls_ysB {p : MV → Bool} : ∀ xs : List MV, blsOf (ysB p xs) = some (xs.map p)
  | [] => rfl
  | x :: xs => by
    rw [ysB_cons]
    show (blsOf (ysB p xs)).map (p x :: ·) = _
    rw [bls_ysB xs] <;> rfl
theorem all_ysB {p : MV → Bool} {xs : List MV} {h : MHp} {Q : MQ} (k : Q (.bl (xs.all p)) h) : allM [.fl (ysB p xs)] h Q := by
  refine ⟨_, _, _, rfl, rfl, bls_ysB xs, ?_⟩
  rw [List.all_map]
  exact k
theorem sizes_ok {v : MV} {h : MHp} (hh : Hh h) (hv : v.sok = true) {Q E : MQ} (k : Q (.bl (sizesB v)) h) : f_are_endless_sizes [v] h Q E := by
  simp only [f_are_endless_sizes, b_are_endless_sizes, getK, setK, Option.isSome_some, eqM_int, neM_int, kit_ii, kit_bi, kit_ni, kit_si, kit_ti, kit_li, kit_ib, kit_bb, kit_tt, kit_it, kit_bt, kit_nt, kit_st, kit_lt, atI0, atI1, atI2, ixN30, ixN31, ixN32, mFn, startM, mSeq, mIf, mAsg, mRet, mRetN, mDrop, mNext, gN, gT, gsCons, gsNil, gIx, mVar, mInt, mBl, mNon, mStr, mC, mOp1, mOp2, int2, plusM, addM, mulM2, negM, isM, isNotM, isNotM2, isM2, mAug, rg1, rg2, mLstRg, mLstRgC, mTupRg, isNoneM, tV, tNo, tAn, Mini.tOr, mAnd, mOr, mNot, Mini.notM, Bool.not_false, Bool.not_true, Bool.false_eq_true, if_false, if_true, reduceIte, mIfE, aNil, aCons, mTup, mLst, mLstC, mSl, slM, pNo, pAt, mB, mCall, lenM, listM, listMC, tupleM, intM, boolM, ixM, ixV, seqOf, lstOf, Mini.cellOf, mPar, mPar3, mLc, mLcC, mFor, iSeq, Mini.iRng1, Mini.iRng2, Mini.iEnum, Mini.iZip, mIsi, isiM, tyM, mMt, mMt0, appendM, extendM, popM, catF, catF.lstM, mChain, tAll, wipeM, mdK, Prod.mk.injEq, and_assoc, List.map_cons, List.map_nil, List.length_cons, List.length_nil, List.replicate, List.cons_append, List.nil_append, List.getElem?_cons_zero, List.getElem?_cons_succ, List.set_cons_zero, List.set_cons_succ, Option.some.injEq, exists_eq_left', exists_eq_left, true_and, and_true, List.cons.injEq, MV.int.injEq, MV.bl.injEq, MV.tup.injEq, MV.fl.injEq, MV.str.injEq, MV.ref.injEq, Option.bind_some, exists_and_left, exists_const, Nat.sub_self, Nat.reduceSub, Nat.reduceAdd, List.append_nil, List.nil_append, List.length_map, Nat.add_zero, Nat.zero_add]
  cases v <;> first | (simp [MV.sok] at hv; done) | skip
  case tup xs =>
    have hx := sokAll_iff.mp (show sokAll xs = true by simpa [MV.sok] using hv)
    simp only [getK, setK, Option.isSome_some, eqM_int, neM_int, kit_ii, kit_bi, kit_ni, kit_si, kit_ti, kit_li, kit_ib, kit_bb, kit_tt, kit_it, kit_bt, kit_nt, kit_st, kit_lt, atI0, atI1, atI2, ixN30, ixN31, ixN32, mFn, startM, mSeq, mIf, mAsg, mRet, mRetN, mDrop, mNext, gN, gT, gsCons, gsNil, gIx, mVar, mInt, mBl, mNon, mStr, mC, mOp1, mOp2, int2, plusM, addM, mulM2, negM, isM, isNotM, isNotM2, isM2, mAug, rg1, rg2, mLstRg, mLstRgC, mTupRg, isNoneM, tV, tNo, tAn, Mini.tOr, mAnd, mOr, mNot, Mini.notM, Bool.not_false, Bool.not_true, Bool.false_eq_true, if_false, if_true, reduceIte, mIfE, aNil, aCons, mTup, mLst, mLstC, mSl, slM, pNo, pAt, mB, mCall, lenM, listM, listMC, tupleM, intM, boolM, ixM, ixV, seqOf, lstOf, Mini.cellOf, mPar, mPar3, mLc, mLcC, mFor, iSeq, Mini.iRng1, Mini.iRng2, Mini.iEnum, Mini.iZip, mIsi, isiM, tyM, mMt, mMt0, appendM, extendM, popM, catF, catF.lstM, mChain, tAll, wipeM, mdK, Prod.mk.injEq, and_assoc, List.map_cons, List.map_nil, List.length_cons, List.length_nil, List.replicate, List.cons_append, List.nil_append, List.getElem?_cons_zero, List.getElem?_cons_succ, List.set_cons_zero, List.set_cons_succ, Option.some.injEq, exists_eq_left', exists_eq_left, true_and, and_true, List.cons.injEq, MV.int.injEq, MV.bl.injEq, MV.tup.injEq, MV.fl.injEq, MV.str.injEq, MV.ref.injEq, Option.bind_some, exists_and_left, exists_const, Nat.sub_self, Nat.reduceSub, Nat.reduceAdd, List.append_nil, List.nil_append, List.length_map, Nat.add_zero, Nat.zero_add]
    by_cases h1 : 1 ≤ xs.length
    · have e1 : decide ((1 : Int) ≤ (xs.length : Int)) = true := decide_eq_true (by omega)
      simp only [e1, getK, setK, Option.isSome_some, eqM_int, neM_int, kit_ii, kit_bi, kit_ni, kit_si, kit_ti, kit_li, kit_ib, kit_bb, kit_tt, kit_it, kit_bt, kit_nt, kit_st, kit_lt, atI0, atI1, atI2, ixN30, ixN31, ixN32, mFn, startM, mSeq, mIf, mAsg, mRet, mRetN, mDrop, mNext, gN, gT, gsCons, gsNil, gIx, mVar, mInt, mBl, mNon, mStr, mC, mOp1, mOp2, int2, plusM, addM, mulM2, negM, isM, isNotM, isNotM2, isM2, mAug, rg1, rg2, mLstRg, mLstRgC, mTupRg, isNoneM, tV, tNo, tAn, Mini.tOr, mAnd, mOr, mNot, Mini.notM, Bool.not_false, Bool.not_true, Bool.false_eq_true, if_false, if_true, reduceIte, mIfE, aNil, aCons, mTup, mLst, mLstC, mSl, slM, pNo, pAt, mB, mCall, lenM, listM, listMC, tupleM, intM, boolM, ixM, ixV, seqOf, lstOf, Mini.cellOf, mPar, mPar3, mLc, mLcC, mFor, iSeq, Mini.iRng1, Mini.iRng2, Mini.iEnum, Mini.iZip, mIsi, isiM, tyM, mMt, mMt0, appendM, extendM, popM, catF, catF.lstM, mChain, tAll, wipeM, mdK, Prod.mk.injEq, and_assoc, List.map_cons, List.map_nil, List.length_cons, List.length_nil, List.replicate, List.cons_append, List.nil_append, List.getElem?_cons_zero, List.getElem?_cons_succ, List.set_cons_zero, List.set_cons_succ, Option.some.injEq, exists_eq_left', exists_eq_left, true_and, and_true, List.cons.injEq, MV.int.injEq, MV.bl.injEq, MV.tup.injEq, MV.fl.injEq, MV.str.injEq, MV.ref.injEq, Option.bind_some, exists_and_left, exists_const, Nat.sub_self, Nat.reduceSub, Nat.reduceAdd, List.append_nil, List.nil_append, List.length_map, Nat.add_zero, Nat.zero_add]
      by_cases h2 : xs.length ≤ 4
      · have e2 : decide ((xs.length : Int) ≤ 4) = true := decide_eq_true (by omega)
        simp only [e2, getK, setK, Option.isSome_some, eqM_int, neM_int, kit_ii, kit_bi, kit_ni, kit_si, kit_ti, kit_li, kit_ib, kit_bb, kit_tt, kit_it, kit_bt, kit_nt, kit_st, kit_lt, atI0, atI1, atI2, ixN30, ixN31, ixN32, mFn, startM, mSeq, mIf, mAsg, mRet, mRetN, mDrop, mNext, gN, gT, gsCons, gsNil, gIx, mVar, mInt, mBl, mNon, mStr, mC, mOp1, mOp2, int2, plusM, addM, mulM2, negM, isM, isNotM, isNotM2, isM2, mAug, rg1, rg2, mLstRg, mLstRgC, mTupRg, isNoneM, tV, tNo, tAn, Mini.tOr, mAnd, mOr, mNot, Mini.notM, Bool.not_false, Bool.not_true, Bool.false_eq_true, if_false, if_true, reduceIte, mIfE, aNil, aCons, mTup, mLst, mLstC, mSl, slM, pNo, pAt, mB, mCall, lenM, listM, listMC, tupleM, intM, boolM, ixM, ixV, seqOf, lstOf, Mini.cellOf, mPar, mPar3, mLc, mLcC, mFor, iSeq, Mini.iRng1, Mini.iRng2, Mini.iEnum, Mini.iZip, mIsi, isiM, tyM, mMt, mMt0, appendM, extendM, popM, catF, catF.lstM, mChain, tAll, wipeM, mdK, Prod.mk.injEq, and_assoc, List.map_cons, List.map_nil, List.length_cons, List.length_nil, List.replicate, List.cons_append, List.nil_append, List.getElem?_cons_zero, List.getElem?_cons_succ, List.set_cons_zero, List.set_cons_succ, Option.some.injEq, exists_eq_left', exists_eq_left, true_and, and_true, List.cons.injEq, MV.int.injEq, MV.bl.injEq, MV.tup.injEq, MV.fl.injEq, MV.str.injEq, MV.ref.injEq, Option.bind_some, exists_and_left, exists_const, Nat.sub_self, Nat.reduceSub, Nat.reduceAdd, List.append_nil, List.nil_append, List.length_map, Nat.add_zero, Nat.zero_add]
        refine comp_pure (f := fun x => some (.bl (wholeB x 1 4))) trivial xs [] (by rw [sizeLine_eq]; simp; omega) (fun x hx' acc K ha hk => ?_) ?_
        · simp only [tAll, getK, setK, Option.isSome_some, eqM_int, neM_int, kit_ii, kit_bi, kit_ni, kit_si, kit_ti, kit_li, kit_ib, kit_bb, kit_tt, kit_it, kit_bt, kit_nt, kit_st, kit_lt, atI0, atI1, atI2, ixN30, ixN31, ixN32, mFn, startM, mSeq, mIf, mAsg, mRet, mRetN, mDrop, mNext, gN, gT, gsCons, gsNil, gIx, mVar, mInt, mBl, mNon, mStr, mC, mOp1, mOp2, int2, plusM, addM, mulM2, negM, isM, isNotM, isNotM2, isM2, mAug, rg1, rg2, mLstRg, mLstRgC, mTupRg, isNoneM, tV, tNo, tAn, Mini.tOr, mAnd, mOr, mNot, Mini.notM, Bool.not_false, Bool.not_true, Bool.false_eq_true, if_false, if_true, reduceIte, mIfE, aNil, aCons, mTup, mLst, mLstC, mSl, slM, pNo, pAt, mB, mCall, lenM, listM, listMC, tupleM, intM, boolM, ixM, ixV, seqOf, lstOf, Mini.cellOf, mPar, mPar3, mLc, mLcC, mFor, iSeq, Mini.iRng1, Mini.iRng2, Mini.iEnum, Mini.iZip, mIsi, isiM, tyM, mMt, mMt0, appendM, extendM, popM, catF, catF.lstM, mChain, tAll, wipeM, mdK, Prod.mk.injEq, and_assoc, List.map_cons, List.map_nil, List.length_cons, List.length_nil, List.replicate, List.cons_append, List.nil_append, List.getElem?_cons_zero, List.getElem?_cons_succ, List.set_cons_zero, List.set_cons_succ, Option.some.injEq, exists_eq_left', exists_eq_left, true_and, and_true, List.cons.injEq, MV.int.injEq, MV.bl.injEq, MV.tup.injEq, MV.fl.injEq, MV.str.injEq, MV.ref.injEq, Option.bind_some, exists_and_left, exists_const, Nat.sub_self, Nat.reduceSub, Nat.reduceAdd, List.append_nil, List.nil_append, List.length_map, Nat.add_zero, Nat.zero_add]
          exact between_ok hh (hx x hx') ⟨ha, hk⟩
        · rw [List.nil_append]
          refine all_ysB (p := fun x => wholeB x 1 4) (bl_end hh ?_)
          simpa only [sizesB, h1, h2, decide_true, Bool.and_self, Bool.true_and] using k
      · have e2 : decide ((xs.length : Int) ≤ 4) = false := decide_eq_false (by omega)
        simp only [e2, getK, setK, Option.isSome_some, eqM_int, neM_int, kit_ii, kit_bi, kit_ni, kit_si, kit_ti, kit_li, kit_ib, kit_bb, kit_tt, kit_it, kit_bt, kit_nt, kit_st, kit_lt, atI0, atI1, atI2, ixN30, ixN31, ixN32, mFn, startM, mSeq, mIf, mAsg, mRet, mRetN, mDrop, mNext, gN, gT, gsCons, gsNil, gIx, mVar, mInt, mBl, mNon, mStr, mC, mOp1, mOp2, int2, plusM, addM, mulM2, negM, isM, isNotM, isNotM2, isM2, mAug, rg1, rg2, mLstRg, mLstRgC, mTupRg, isNoneM, tV, tNo, tAn, Mini.tOr, mAnd, mOr, mNot, Mini.notM, Bool.not_false, Bool.not_true, Bool.false_eq_true, if_false, if_true, reduceIte, mIfE, aNil, aCons, mTup, mLst, mLstC, mSl, slM, pNo, pAt, mB, mCall, lenM, listM, listMC, tupleM, intM, boolM, ixM, ixV, seqOf, lstOf, Mini.cellOf, mPar, mPar3, mLc, mLcC, mFor, iSeq, Mini.iRng1, Mini.iRng2, Mini.iEnum, Mini.iZip, mIsi, isiM, tyM, mMt, mMt0, appendM, extendM, popM, catF, catF.lstM, mChain, tAll, wipeM, mdK, Prod.mk.injEq, and_assoc, List.map_cons, List.map_nil, List.length_cons, List.length_nil, List.replicate, List.cons_append, List.nil_append, List.getElem?_cons_zero, List.getElem?_cons_succ, List.set_cons_zero, List.set_cons_succ, Option.some.injEq, exists_eq_left', exists_eq_left, true_and, and_true, List.cons.injEq, MV.int.injEq, MV.bl.injEq, MV.tup.injEq, MV.fl.injEq, MV.str.injEq, MV.ref.injEq, Option.bind_some, exists_and_left, exists_const, Nat.sub_self, Nat.reduceSub, Nat.reduceAdd, List.append_nil, List.nil_append, List.length_map, Nat.add_zero, Nat.zero_add]
        refine bl_end hh ?_
        simpa only [sizesB, h1, h2, decide_true, decide_false, Bool.and_false, Bool.false_and] using k
    · have e1 : decide ((1 : Int) ≤ (xs.length : Int)) = false := decide_eq_false (by omega)
      simp only [e1, getK, setK, Option.isSome_some, eqM_int, neM_int, kit_ii, kit_bi, kit_ni, kit_si, kit_ti, kit_li, kit_ib, kit_bb, kit_tt, kit_it, kit_bt, kit_nt, kit_st, kit_lt, atI0, atI1, atI2, ixN30, ixN31, ixN32, mFn, startM, mSeq, mIf, mAsg, mRet, mRetN, mDrop, mNext, gN, gT, gsCons, gsNil, gIx, mVar, mInt, mBl, mNon, mStr, mC, mOp1, mOp2, int2, plusM, addM, mulM2, negM, isM, isNotM, isNotM2, isM2, mAug, rg1, rg2, mLstRg, mLstRgC, mTupRg, isNoneM, tV, tNo, tAn, Mini.tOr, mAnd, mOr, mNot, Mini.notM, Bool.not_false, Bool.not_true, Bool.false_eq_true, if_false, if_true, reduceIte, mIfE, aNil, aCons, mTup, mLst, mLstC, mSl, slM, pNo, pAt, mB, mCall, lenM, listM, listMC, tupleM, intM, boolM, ixM, ixV, seqOf, lstOf, Mini.cellOf, mPar, mPar3, mLc, mLcC, mFor, iSeq, Mini.iRng1, Mini.iRng2, Mini.iEnum, Mini.iZip, mIsi, isiM, tyM, mMt, mMt0, appendM, extendM, popM, catF, catF.lstM, mChain, tAll, wipeM, mdK, Prod.mk.injEq, and_assoc, List.map_cons, List.map_nil, List.length_cons, List.length_nil, List.replicate, List.cons_append, List.nil_append, List.getElem?_cons_zero, List.getElem?_cons_succ, List.set_cons_zero, List.set_cons_succ, Option.some.injEq, exists_eq_left', exists_eq_left, true_and, and_true, List.cons.injEq, MV.int.injEq, MV.bl.injEq, MV.tup.injEq, MV.fl.injEq, MV.str.injEq, MV.ref.injEq, Option.bind_some, exists_and_left, exists_const, Nat.sub_self, Nat.reduceSub, Nat.reduceAdd, List.append_nil, List.nil_append, List.length_map, Nat.add_zero, Nat.zero_add]
      refine bl_end hh ?_
      simpa only [sizesB, h1, decide_false, Bool.false_and] using k
  all_goals (simp only [getK, setK, Option.isSome_some, eqM_int, neM_int, kit_ii, kit_bi, kit_ni, kit_si, kit_ti, kit_li, kit_ib, kit_bb, kit_tt, kit_it, kit_bt, kit_nt, kit_st, kit_lt, atI0, atI1, atI2, ixN30, ixN31, ixN32, mFn, startM, mSeq, mIf, mAsg, mRet, mRetN, mDrop, mNext, gN, gT, gsCons, gsNil, gIx, mVar, mInt, mBl, mNon, mStr, mC, mOp1, mOp2, int2, plusM, addM, mulM2, negM, isM, isNotM, isNotM2, isM2, mAug, rg1, rg2, mLstRg, mLstRgC, mTupRg, isNoneM, tV, tNo, tAn, Mini.tOr, mAnd, mOr, mNot, Mini.notM, Bool.not_false, Bool.not_true, Bool.false_eq_true, if_false, if_true, reduceIte, mIfE, aNil, aCons, mTup, mLst, mLstC, mSl, slM, pNo, pAt, mB, mCall, lenM, listM, listMC, tupleM, intM, boolM, ixM, ixV, seqOf, lstOf, Mini.cellOf, mPar, mPar3, mLc, mLcC, mFor, iSeq, Mini.iRng1, Mini.iRng2, Mini.iEnum, Mini.iZip, mIsi, isiM, tyM, mMt, mMt0, appendM, extendM, popM, catF, catF.lstM, mChain, tAll, wipeM, mdK, Prod.mk.injEq, and_assoc, List.map_cons, List.map_nil, List.length_cons, List.length_nil, List.replicate, List.cons_append, List.nil_append, List.getElem?_cons_zero, List.getElem?_cons_succ, List.set_cons_zero, List.set_cons_succ, Option.some.injEq, exists_eq_left', exists_eq_left, true_and, and_true, List.cons.injEq, MV.int.injEq, MV.bl.injEq, MV.tup.injEq, MV.fl.injEq, MV.str.injEq, MV.ref.injEq, Option.bind_some, exists_and_left, exists_const, Nat.sub_self, Nat.reduceSub, Nat.reduceAdd, List.append_nil, List.nil_append, List.length_map, Nat.add_zero, Nat.zero_add]; exact bl_end hh k)
theorem planB_of {ss : List Int} {ws : List MV} : planB (.tup [.tup (ss.map .int), .tup ws]) = (sizesB (.tup (ss.map .int)) && (decide (ws.length ≤ 12) && (ws.all (waitB ss) && @decide (ascB ws) (Classical.propDecidable _)))) := by
  show (sizesB (.tup (ss.map .int)) && (decide (ws.length ≤ 12) && (ws.all (waitB ((ss.map MV.int).map toI)) && _))) = _
  rw [sizes_back]
theorem sizes_ints {v : MV} (h : sizesB v = true) : ∃ ss : List Int, v = .tup (ss.map .int) ∧ ss.length ≤ 4 ∧ 1 ≤ ss.length ∧ ∀ s ∈ ss, 1 ≤ s ∧ s ≤ 4 := by
  cases v <;> first | (simp [sizesB] at h; done) | skip
  case tup xs =>
    simp only [sizesB, Bool.and_eq_true, decide_eq_true_eq] at h
    obtain ⟨ss, rfl, hs⟩ := ints_of h.2
    rw [List.length_map] at h
    exact ⟨ss, rfl, h.1.2, h.1.1, hs⟩
theorem planB_ns {a b : MV} (h : sizesB a = false) : planB (.tup [a, b]) = false := by
  unfold planB
  split
  · rename_i xs ws e
    injection e with e
    injection e with e1 e2
    subst e1
    rw [h, Bool.false_and]
  · rfl
theorem planB_nt {a b : MV} (h : ∀ ws, b ≠ .tup ws) : planB (.tup [a, b]) = false := by
  unfold planB
  split
  · rename_i xs ws e
    injection e with e
    injection e with e1 e2
    injection e2 with e2
    exact absurd e2 (h ws)
  · rfl
theorem planB_len {xs : List MV} (h : xs.length ≠ 2) : planB (.tup xs) = false := by
  unfold planB
  split
  · rename_i e
    injection e with e
    rw [e] at h
    simp at h
  · rfl
theorem endless_plan_ok {v : MV} {h : MHp} (hh : Hh h) (hv : v.sok = true) {Q E : MQ} (k : Q (.bl (planB v)) h) : f_is_endless_plan [v] h Q E := by
  simp only [f_is_endless_plan, b_is_endless_plan, getK, setK, Option.isSome_some, eqM_int, neM_int, kit_ii, kit_bi, kit_ni, kit_si, kit_ti, kit_li, kit_ib, kit_bb, kit_tt, kit_it, kit_bt, kit_nt, kit_st, kit_lt, atI0, atI1, atI2, ixN30, ixN31, ixN32, mFn, startM, mSeq, mIf, mAsg, mRet, mRetN, mDrop, mNext, gN, gT, gsCons, gsNil, gIx, mVar, mInt, mBl, mNon, mStr, mC, mOp1, mOp2, int2, plusM, addM, mulM2, negM, isM, isNotM, isNotM2, isM2, mAug, rg1, rg2, mLstRg, mLstRgC, mTupRg, isNoneM, tV, tNo, tAn, Mini.tOr, mAnd, mOr, mNot, Mini.notM, Bool.not_false, Bool.not_true, Bool.false_eq_true, if_false, if_true, reduceIte, mIfE, aNil, aCons, mTup, mLst, mLstC, mSl, slM, pNo, pAt, mB, mCall, lenM, listM, listMC, tupleM, intM, boolM, ixM, ixV, seqOf, lstOf, Mini.cellOf, mPar, mPar3, mLc, mLcC, mFor, iSeq, Mini.iRng1, Mini.iRng2, Mini.iEnum, Mini.iZip, mIsi, isiM, tyM, mMt, mMt0, appendM, extendM, popM, catF, catF.lstM, mChain, tAll, wipeM, mdK, Prod.mk.injEq, and_assoc, List.map_cons, List.map_nil, List.length_cons, List.length_nil, List.replicate, List.cons_append, List.nil_append, List.getElem?_cons_zero, List.getElem?_cons_succ, List.set_cons_zero, List.set_cons_succ, Option.some.injEq, exists_eq_left', exists_eq_left, true_and, and_true, List.cons.injEq, MV.int.injEq, MV.bl.injEq, MV.tup.injEq, MV.fl.injEq, MV.str.injEq, MV.ref.injEq, Option.bind_some, exists_and_left, exists_const, Nat.sub_self, Nat.reduceSub, Nat.reduceAdd, List.append_nil, List.nil_append, List.length_map, Nat.add_zero, Nat.zero_add]
  cases v <;> first | (simp [MV.sok] at hv; done) | skip
  case tup xs =>
    simp only [getK, setK, Option.isSome_some, eqM_int, neM_int, kit_ii, kit_bi, kit_ni, kit_si, kit_ti, kit_li, kit_ib, kit_bb, kit_tt, kit_it, kit_bt, kit_nt, kit_st, kit_lt, atI0, atI1, atI2, ixN30, ixN31, ixN32, mFn, startM, mSeq, mIf, mAsg, mRet, mRetN, mDrop, mNext, gN, gT, gsCons, gsNil, gIx, mVar, mInt, mBl, mNon, mStr, mC, mOp1, mOp2, int2, plusM, addM, mulM2, negM, isM, isNotM, isNotM2, isM2, mAug, rg1, rg2, mLstRg, mLstRgC, mTupRg, isNoneM, tV, tNo, tAn, Mini.tOr, mAnd, mOr, mNot, Mini.notM, Bool.not_false, Bool.not_true, Bool.false_eq_true, if_false, if_true, reduceIte, mIfE, aNil, aCons, mTup, mLst, mLstC, mSl, slM, pNo, pAt, mB, mCall, lenM, listM, listMC, tupleM, intM, boolM, ixM, ixV, seqOf, lstOf, Mini.cellOf, mPar, mPar3, mLc, mLcC, mFor, iSeq, Mini.iRng1, Mini.iRng2, Mini.iEnum, Mini.iZip, mIsi, isiM, tyM, mMt, mMt0, appendM, extendM, popM, catF, catF.lstM, mChain, tAll, wipeM, mdK, Prod.mk.injEq, and_assoc, List.map_cons, List.map_nil, List.length_cons, List.length_nil, List.replicate, List.cons_append, List.nil_append, List.getElem?_cons_zero, List.getElem?_cons_succ, List.set_cons_zero, List.set_cons_succ, Option.some.injEq, exists_eq_left', exists_eq_left, true_and, and_true, List.cons.injEq, MV.int.injEq, MV.bl.injEq, MV.tup.injEq, MV.fl.injEq, MV.str.injEq, MV.ref.injEq, Option.bind_some, exists_and_left, exists_const, Nat.sub_self, Nat.reduceSub, Nat.reduceAdd, List.append_nil, List.nil_append, List.length_map, Nat.add_zero, Nat.zero_add]
    by_cases hl : xs.length = 2
    · obtain ⟨a, b, rfl⟩ := len2 hl
      obtain ⟨ha, hb⟩ := sok2 hv
      simp only [getK, setK, Option.isSome_some, eqM_int, neM_int, kit_ii, kit_bi, kit_ni, kit_si, kit_ti, kit_li, kit_ib, kit_bb, kit_tt, kit_it, kit_bt, kit_nt, kit_st, kit_lt, atI0, atI1, atI2, ixN30, ixN31, ixN32, mFn, startM, mSeq, mIf, mAsg, mRet, mRetN, mDrop, mNext, gN, gT, gsCons, gsNil, gIx, mVar, mInt, mBl, mNon, mStr, mC, mOp1, mOp2, int2, plusM, addM, mulM2, negM, isM, isNotM, isNotM2, isM2, mAug, rg1, rg2, mLstRg, mLstRgC, mTupRg, isNoneM, tV, tNo, tAn, Mini.tOr, mAnd, mOr, mNot, Mini.notM, Bool.not_false, Bool.not_true, Bool.false_eq_true, if_false, if_true, reduceIte, mIfE, aNil, aCons, mTup, mLst, mLstC, mSl, slM, pNo, pAt, mB, mCall, lenM, listM, listMC, tupleM, intM, boolM, ixM, ixV, seqOf, lstOf, Mini.cellOf, mPar, mPar3, mLc, mLcC, mFor, iSeq, Mini.iRng1, Mini.iRng2, Mini.iEnum, Mini.iZip, mIsi, isiM, tyM, mMt, mMt0, appendM, extendM, popM, catF, catF.lstM, mChain, tAll, wipeM, mdK, Prod.mk.injEq, and_assoc, List.map_cons, List.map_nil, List.length_cons, List.length_nil, List.replicate, List.cons_append, List.nil_append, List.getElem?_cons_zero, List.getElem?_cons_succ, List.set_cons_zero, List.set_cons_succ, Option.some.injEq, exists_eq_left', exists_eq_left, true_and, and_true, List.cons.injEq, MV.int.injEq, MV.bl.injEq, MV.tup.injEq, MV.fl.injEq, MV.str.injEq, MV.ref.injEq, Option.bind_some, exists_and_left, exists_const, Nat.sub_self, Nat.reduceSub, Nat.reduceAdd, List.append_nil, List.nil_append, List.length_map, Nat.add_zero, Nat.zero_add]
      rw [if_neg (by decide)]
      refine sizes_ok hh ha ⟨_, rfl, ?_⟩
      cases m1 : sizesB a with
      | false =>
        simp only [getK, setK, Option.isSome_some, eqM_int, neM_int, kit_ii, kit_bi, kit_ni, kit_si, kit_ti, kit_li, kit_ib, kit_bb, kit_tt, kit_it, kit_bt, kit_nt, kit_st, kit_lt, atI0, atI1, atI2, ixN30, ixN31, ixN32, mFn, startM, mSeq, mIf, mAsg, mRet, mRetN, mDrop, mNext, gN, gT, gsCons, gsNil, gIx, mVar, mInt, mBl, mNon, mStr, mC, mOp1, mOp2, int2, plusM, addM, mulM2, negM, isM, isNotM, isNotM2, isM2, mAug, rg1, rg2, mLstRg, mLstRgC, mTupRg, isNoneM, tV, tNo, tAn, Mini.tOr, mAnd, mOr, mNot, Mini.notM, Bool.not_false, Bool.not_true, Bool.false_eq_true, if_false, if_true, reduceIte, mIfE, aNil, aCons, mTup, mLst, mLstC, mSl, slM, pNo, pAt, mB, mCall, lenM, listM, listMC, tupleM, intM, boolM, ixM, ixV, seqOf, lstOf, Mini.cellOf, mPar, mPar3, mLc, mLcC, mFor, iSeq, Mini.iRng1, Mini.iRng2, Mini.iEnum, Mini.iZip, mIsi, isiM, tyM, mMt, mMt0, appendM, extendM, popM, catF, catF.lstM, mChain, tAll, wipeM, mdK, Prod.mk.injEq, and_assoc, List.map_cons, List.map_nil, List.length_cons, List.length_nil, List.replicate, List.cons_append, List.nil_append, List.getElem?_cons_zero, List.getElem?_cons_succ, List.set_cons_zero, List.set_cons_succ, Option.some.injEq, exists_eq_left', exists_eq_left, true_and, and_true, List.cons.injEq, MV.int.injEq, MV.bl.injEq, MV.tup.injEq, MV.fl.injEq, MV.str.injEq, MV.ref.injEq, Option.bind_some, exists_and_left, exists_const, Nat.sub_self, Nat.reduceSub, Nat.reduceAdd, List.append_nil, List.nil_append, List.length_map, Nat.add_zero, Nat.zero_add]
        rw [planB_ns m1] at k
        exact bl_end hh k
      | true =>
        obtain ⟨ss, rfl, l1, l2, _⟩ := sizes_ints m1
        simp only [getK, setK, Option.isSome_some, eqM_int, neM_int, kit_ii, kit_bi, kit_ni, kit_si, kit_ti, kit_li, kit_ib, kit_bb, kit_tt, kit_it, kit_bt, kit_nt, kit_st, kit_lt, atI0, atI1, atI2, ixN30, ixN31, ixN32, mFn, startM, mSeq, mIf, mAsg, mRet, mRetN, mDrop, mNext, gN, gT, gsCons, gsNil, gIx, mVar, mInt, mBl, mNon, mStr, mC, mOp1, mOp2, int2, plusM, addM, mulM2, negM, isM, isNotM, isNotM2, isM2, mAug, rg1, rg2, mLstRg, mLstRgC, mTupRg, isNoneM, tV, tNo, tAn, Mini.tOr, mAnd, mOr, mNot, Mini.notM, Bool.not_false, Bool.not_true, Bool.false_eq_true, if_false, if_true, reduceIte, mIfE, aNil, aCons, mTup, mLst, mLstC, mSl, slM, pNo, pAt, mB, mCall, lenM, listM, listMC, tupleM, intM, boolM, ixM, ixV, seqOf, lstOf, Mini.cellOf, mPar, mPar3, mLc, mLcC, mFor, iSeq, Mini.iRng1, Mini.iRng2, Mini.iEnum, Mini.iZip, mIsi, isiM, tyM, mMt, mMt0, appendM, extendM, popM, catF, catF.lstM, mChain, tAll, wipeM, mdK, Prod.mk.injEq, and_assoc, List.map_cons, List.map_nil, List.length_cons, List.length_nil, List.replicate, List.cons_append, List.nil_append, List.getElem?_cons_zero, List.getElem?_cons_succ, List.set_cons_zero, List.set_cons_succ, Option.some.injEq, exists_eq_left', exists_eq_left, true_and, and_true, List.cons.injEq, MV.int.injEq, MV.bl.injEq, MV.tup.injEq, MV.fl.injEq, MV.str.injEq, MV.ref.injEq, Option.bind_some, exists_and_left, exists_const, Nat.sub_self, Nat.reduceSub, Nat.reduceAdd, List.append_nil, List.nil_append, List.length_map, Nat.add_zero, Nat.zero_add]
        cases b <;> first | (simp [MV.sok] at hb; done) | skip
        case tup ws =>
          have hw : sokAll ws = true := by simpa [MV.sok] using hb
          have hw' := sokAll_iff.mp hw
          simp only [getK, setK, Option.isSome_some, eqM_int, neM_int, kit_ii, kit_bi, kit_ni, kit_si, kit_ti, kit_li, kit_ib, kit_bb, kit_tt, kit_it, kit_bt, kit_nt, kit_st, kit_lt, atI0, atI1, atI2, ixN30, ixN31, ixN32, mFn, startM, mSeq, mIf, mAsg, mRet, mRetN, mDrop, mNext, gN, gT, gsCons, gsNil, gIx, mVar, mInt, mBl, mNon, mStr, mC, mOp1, mOp2, int2, plusM, addM, mulM2, negM, isM, isNotM, isNotM2, isM2, mAug, rg1, rg2, mLstRg, mLstRgC, mTupRg, isNoneM, tV, tNo, tAn, Mini.tOr, mAnd, mOr, mNot, Mini.notM, Bool.not_false, Bool.not_true, Bool.false_eq_true, if_false, if_true, reduceIte, mIfE, aNil, aCons, mTup, mLst, mLstC, mSl, slM, pNo, pAt, mB, mCall, lenM, listM, listMC, tupleM, intM, boolM, ixM, ixV, seqOf, lstOf, Mini.cellOf, mPar, mPar3, mLc, mLcC, mFor, iSeq, Mini.iRng1, Mini.iRng2, Mini.iEnum, Mini.iZip, mIsi, isiM, tyM, mMt, mMt0, appendM, extendM, popM, catF, catF.lstM, mChain, tAll, wipeM, mdK, Prod.mk.injEq, and_assoc, List.map_cons, List.map_nil, List.length_cons, List.length_nil, List.replicate, List.cons_append, List.nil_append, List.getElem?_cons_zero, List.getElem?_cons_succ, List.set_cons_zero, List.set_cons_succ, Option.some.injEq, exists_eq_left', exists_eq_left, true_and, and_true, List.cons.injEq, MV.int.injEq, MV.bl.injEq, MV.tup.injEq, MV.fl.injEq, MV.str.injEq, MV.ref.injEq, Option.bind_some, exists_and_left, exists_const, Nat.sub_self, Nat.reduceSub, Nat.reduceAdd, List.append_nil, List.nil_append, List.length_map, Nat.add_zero, Nat.zero_add]
          by_cases h12 : ws.length ≤ 12
          · have e2 : decide ((12 : Int) < (ws.length : Int)) = false := decide_eq_false (by omega)
            simp only [e2, getK, setK, Option.isSome_some, eqM_int, neM_int, kit_ii, kit_bi, kit_ni, kit_si, kit_ti, kit_li, kit_ib, kit_bb, kit_tt, kit_it, kit_bt, kit_nt, kit_st, kit_lt, atI0, atI1, atI2, ixN30, ixN31, ixN32, mFn, startM, mSeq, mIf, mAsg, mRet, mRetN, mDrop, mNext, gN, gT, gsCons, gsNil, gIx, mVar, mInt, mBl, mNon, mStr, mC, mOp1, mOp2, int2, plusM, addM, mulM2, negM, isM, isNotM, isNotM2, isM2, mAug, rg1, rg2, mLstRg, mLstRgC, mTupRg, isNoneM, tV, tNo, tAn, Mini.tOr, mAnd, mOr, mNot, Mini.notM, Bool.not_false, Bool.not_true, Bool.false_eq_true, if_false, if_true, reduceIte, mIfE, aNil, aCons, mTup, mLst, mLstC, mSl, slM, pNo, pAt, mB, mCall, lenM, listM, listMC, tupleM, intM, boolM, ixM, ixV, seqOf, lstOf, Mini.cellOf, mPar, mPar3, mLc, mLcC, mFor, iSeq, Mini.iRng1, Mini.iRng2, Mini.iEnum, Mini.iZip, mIsi, isiM, tyM, mMt, mMt0, appendM, extendM, popM, catF, catF.lstM, mChain, tAll, wipeM, mdK, Prod.mk.injEq, and_assoc, List.map_cons, List.map_nil, List.length_cons, List.length_nil, List.replicate, List.cons_append, List.nil_append, List.getElem?_cons_zero, List.getElem?_cons_succ, List.set_cons_zero, List.set_cons_succ, Option.some.injEq, exists_eq_left', exists_eq_left, true_and, and_true, List.cons.injEq, MV.int.injEq, MV.bl.injEq, MV.tup.injEq, MV.fl.injEq, MV.str.injEq, MV.ref.injEq, Option.bind_some, exists_and_left, exists_const, Nat.sub_self, Nat.reduceSub, Nat.reduceAdd, List.append_nil, List.nil_append, List.length_map, Nat.add_zero, Nat.zero_add]
            refine comp_pure (f := fun x => some (.bl (waitB ss x))) trivial ws [] (by rw [sizeLine_eq]; simp; omega) (fun x hx' acc K ha hk => ?_) ?_
            · simp only [tAll, getK, setK, Option.isSome_some, eqM_int, neM_int, kit_ii, kit_bi, kit_ni, kit_si, kit_ti, kit_li, kit_ib, kit_bb, kit_tt, kit_it, kit_bt, kit_nt, kit_st, kit_lt, atI0, atI1, atI2, ixN30, ixN31, ixN32, mFn, startM, mSeq, mIf, mAsg, mRet, mRetN, mDrop, mNext, gN, gT, gsCons, gsNil, gIx, mVar, mInt, mBl, mNon, mStr, mC, mOp1, mOp2, int2, plusM, addM, mulM2, negM, isM, isNotM, isNotM2, isM2, mAug, rg1, rg2, mLstRg, mLstRgC, mTupRg, isNoneM, tV, tNo, tAn, Mini.tOr, mAnd, mOr, mNot, Mini.notM, Bool.not_false, Bool.not_true, Bool.false_eq_true, if_false, if_true, reduceIte, mIfE, aNil, aCons, mTup, mLst, mLstC, mSl, slM, pNo, pAt, mB, mCall, lenM, listM, listMC, tupleM, intM, boolM, ixM, ixV, seqOf, lstOf, Mini.cellOf, mPar, mPar3, mLc, mLcC, mFor, iSeq, Mini.iRng1, Mini.iRng2, Mini.iEnum, Mini.iZip, mIsi, isiM, tyM, mMt, mMt0, appendM, extendM, popM, catF, catF.lstM, mChain, tAll, wipeM, mdK, Prod.mk.injEq, and_assoc, List.map_cons, List.map_nil, List.length_cons, List.length_nil, List.replicate, List.cons_append, List.nil_append, List.getElem?_cons_zero, List.getElem?_cons_succ, List.set_cons_zero, List.set_cons_succ, Option.some.injEq, exists_eq_left', exists_eq_left, true_and, and_true, List.cons.injEq, MV.int.injEq, MV.bl.injEq, MV.tup.injEq, MV.fl.injEq, MV.str.injEq, MV.ref.injEq, Option.bind_some, exists_and_left, exists_const, Nat.sub_self, Nat.reduceSub, Nat.reduceAdd, List.append_nil, List.nil_append, List.length_map, Nat.add_zero, Nat.zero_add]
              exact linked_ok hh (hw' x hx') ⟨ha, hk⟩
            · rw [List.nil_append]
              refine all_ysB (p := waitB ss) ⟨_, rfl, ?_⟩
              rw [planB_of] at k
              simp only [m1, h12, decide_true, Bool.true_and] at k
              cases m2 : ws.all (waitB ss) with
              | false =>
                simp only [getK, setK, Option.isSome_some, eqM_int, neM_int, kit_ii, kit_bi, kit_ni, kit_si, kit_ti, kit_li, kit_ib, kit_bb, kit_tt, kit_it, kit_bt, kit_nt, kit_st, kit_lt, atI0, atI1, atI2, ixN30, ixN31, ixN32, mFn, startM, mSeq, mIf, mAsg, mRet, mRetN, mDrop, mNext, gN, gT, gsCons, gsNil, gIx, mVar, mInt, mBl, mNon, mStr, mC, mOp1, mOp2, int2, plusM, addM, mulM2, negM, isM, isNotM, isNotM2, isM2, mAug, rg1, rg2, mLstRg, mLstRgC, mTupRg, isNoneM, tV, tNo, tAn, Mini.tOr, mAnd, mOr, mNot, Mini.notM, Bool.not_false, Bool.not_true, Bool.false_eq_true, if_false, if_true, reduceIte, mIfE, aNil, aCons, mTup, mLst, mLstC, mSl, slM, pNo, pAt, mB, mCall, lenM, listM, listMC, tupleM, intM, boolM, ixM, ixV, seqOf, lstOf, Mini.cellOf, mPar, mPar3, mLc, mLcC, mFor, iSeq, Mini.iRng1, Mini.iRng2, Mini.iEnum, Mini.iZip, mIsi, isiM, tyM, mMt, mMt0, appendM, extendM, popM, catF, catF.lstM, mChain, tAll, wipeM, mdK, Prod.mk.injEq, and_assoc, List.map_cons, List.map_nil, List.length_cons, List.length_nil, List.replicate, List.cons_append, List.nil_append, List.getElem?_cons_zero, List.getElem?_cons_succ, List.set_cons_zero, List.set_cons_succ, Option.some.injEq, exists_eq_left', exists_eq_left, true_and, and_true, List.cons.injEq, MV.int.injEq, MV.bl.injEq, MV.tup.injEq, MV.fl.injEq, MV.str.injEq, MV.ref.injEq, Option.bind_some, exists_and_left, exists_const, Nat.sub_self, Nat.reduceSub, Nat.reduceAdd, List.append_nil, List.nil_append, List.length_map, Nat.add_zero, Nat.zero_add]
                refine bl_end hh ?_
                simpa only [m2, Bool.false_and] using k
              | true =>
                obtain ⟨es, rfl⟩ := waits_of m2
                rw [List.length_map] at h12
                simp only [getK, setK, Option.isSome_some, eqM_int, neM_int, kit_ii, kit_bi, kit_ni, kit_si, kit_ti, kit_li, kit_ib, kit_bb, kit_tt, kit_it, kit_bt, kit_nt, kit_st, kit_lt, atI0, atI1, atI2, ixN30, ixN31, ixN32, mFn, startM, mSeq, mIf, mAsg, mRet, mRetN, mDrop, mNext, gN, gT, gsCons, gsNil, gIx, mVar, mInt, mBl, mNon, mStr, mC, mOp1, mOp2, int2, plusM, addM, mulM2, negM, isM, isNotM, isNotM2, isM2, mAug, rg1, rg2, mLstRg, mLstRgC, mTupRg, isNoneM, tV, tNo, tAn, Mini.tOr, mAnd, mOr, mNot, Mini.notM, Bool.not_false, Bool.not_true, Bool.false_eq_true, if_false, if_true, reduceIte, mIfE, aNil, aCons, mTup, mLst, mLstC, mSl, slM, pNo, pAt, mB, mCall, lenM, listM, listMC, tupleM, intM, boolM, ixM, ixV, seqOf, lstOf, Mini.cellOf, mPar, mPar3, mLc, mLcC, mFor, iSeq, Mini.iRng1, Mini.iRng2, Mini.iEnum, Mini.iZip, mIsi, isiM, tyM, mMt, mMt0, appendM, extendM, popM, catF, catF.lstM, mChain, tAll, wipeM, mdK, Prod.mk.injEq, and_assoc, List.map_cons, List.map_nil, List.length_cons, List.length_nil, List.replicate, List.cons_append, List.nil_append, List.getElem?_cons_zero, List.getElem?_cons_succ, List.set_cons_zero, List.set_cons_succ, Option.some.injEq, exists_eq_left', exists_eq_left, true_and, and_true, List.cons.injEq, MV.int.injEq, MV.bl.injEq, MV.tup.injEq, MV.fl.injEq, MV.str.injEq, MV.ref.injEq, Option.bind_some, exists_and_left, exists_const, Nat.sub_self, Nat.reduceSub, Nat.reduceAdd, List.append_nil, List.nil_append, List.length_map, Nat.add_zero, Nat.zero_add]
                refine ascending_ok (by omega) hh (bl_end hh ?_)
                simp only [m2, Bool.true_and] at k
                have e3 : @decide (ascB (es.map wv)) (Classical.propDecidable _) = decide (es = asc es) := by
                  by_cases q : es = asc es
                  · rw [show decide (es = asc es) = true from decide_eq_true q]
                    exact @decide_eq_true _ (Classical.propDecidable _) (ascB_iff.mpr q)
                  · rw [show decide (es = asc es) = false from decide_eq_false q]
                    exact @decide_eq_false _ (Classical.propDecidable _) fun z => q (ascB_iff.mp z)
                rwa [e3] at k
          · have e2 : decide ((12 : Int) < (ws.length : Int)) = true := decide_eq_true (by omega)
            simp only [e2, getK, setK, Option.isSome_some, eqM_int, neM_int, kit_ii, kit_bi, kit_ni, kit_si, kit_ti, kit_li, kit_ib, kit_bb, kit_tt, kit_it, kit_bt, kit_nt, kit_st, kit_lt, atI0, atI1, atI2, ixN30, ixN31, ixN32, mFn, startM, mSeq, mIf, mAsg, mRet, mRetN, mDrop, mNext, gN, gT, gsCons, gsNil, gIx, mVar, mInt, mBl, mNon, mStr, mC, mOp1, mOp2, int2, plusM, addM, mulM2, negM, isM, isNotM, isNotM2, isM2, mAug, rg1, rg2, mLstRg, mLstRgC, mTupRg, isNoneM, tV, tNo, tAn, Mini.tOr, mAnd, mOr, mNot, Mini.notM, Bool.not_false, Bool.not_true, Bool.false_eq_true, if_false, if_true, reduceIte, mIfE, aNil, aCons, mTup, mLst, mLstC, mSl, slM, pNo, pAt, mB, mCall, lenM, listM, listMC, tupleM, intM, boolM, ixM, ixV, seqOf, lstOf, Mini.cellOf, mPar, mPar3, mLc, mLcC, mFor, iSeq, Mini.iRng1, Mini.iRng2, Mini.iEnum, Mini.iZip, mIsi, isiM, tyM, mMt, mMt0, appendM, extendM, popM, catF, catF.lstM, mChain, tAll, wipeM, mdK, Prod.mk.injEq, and_assoc, List.map_cons, List.map_nil, List.length_cons, List.length_nil, List.replicate, List.cons_append, List.nil_append, List.getElem?_cons_zero, List.getElem?_cons_succ, List.set_cons_zero, List.set_cons_succ, Option.some.injEq, exists_eq_left', exists_eq_left, true_and, and_true, List.cons.injEq, MV.int.injEq, MV.bl.injEq, MV.tup.injEq, MV.fl.injEq, MV.str.injEq, MV.ref.injEq, Option.bind_some, exists_and_left, exists_const, Nat.sub_self, Nat.reduceSub, Nat.reduceAdd, List.append_nil, List.nil_append, List.length_map, Nat.add_zero, Nat.zero_add]
            refine bl_end hh ?_
            rw [planB_of] at k
            simpa only [m1, h12, decide_false, Bool.false_and, Bool.and_false] using k
        all_goals
          rw [planB_nt (fun ws e => by cases e)] at k
          simp only [getK, setK, Option.isSome_some, eqM_int, neM_int, kit_ii, kit_bi, kit_ni, kit_si, kit_ti, kit_li, kit_ib, kit_bb, kit_tt, kit_it, kit_bt, kit_nt, kit_st, kit_lt, atI0, atI1, atI2, ixN30, ixN31, ixN32, mFn, startM, mSeq, mIf, mAsg, mRet, mRetN, mDrop, mNext, gN, gT, gsCons, gsNil, gIx, mVar, mInt, mBl, mNon, mStr, mC, mOp1, mOp2, int2, plusM, addM, mulM2, negM, isM, isNotM, isNotM2, isM2, mAug, rg1, rg2, mLstRg, mLstRgC, mTupRg, isNoneM, tV, tNo, tAn, Mini.tOr, mAnd, mOr, mNot, Mini.notM, Bool.not_false, Bool.not_true, Bool.false_eq_true, if_false, if_true, reduceIte, mIfE, aNil, aCons, mTup, mLst, mLstC, mSl, slM, pNo, pAt, mB, mCall, lenM, listM, listMC, tupleM, intM, boolM, ixM, ixV, seqOf, lstOf, Mini.cellOf, mPar, mPar3, mLc, mLcC, mFor, iSeq, Mini.iRng1, Mini.iRng2, Mini.iEnum, Mini.iZip, mIsi, isiM, tyM, mMt, mMt0, appendM, extendM, popM, catF, catF.lstM, mChain, tAll, wipeM, mdK, Prod.mk.injEq, and_assoc, List.map_cons, List.map_nil, List.length_cons, List.length_nil, List.replicate, List.cons_append, List.nil_append, List.getElem?_cons_zero, List.getElem?_cons_succ, List.set_cons_zero, List.set_cons_succ, Option.some.injEq, exists_eq_left', exists_eq_left, true_and, and_true, List.cons.injEq, MV.int.injEq, MV.bl.injEq, MV.tup.injEq, MV.fl.injEq, MV.str.injEq, MV.ref.injEq, Option.bind_some, exists_and_left, exists_const, Nat.sub_self, Nat.reduceSub, Nat.reduceAdd, List.append_nil, List.nil_append, List.length_map, Nat.add_zero, Nat.zero_add]
          exact bl_end hh k
    · have e : ((xs.length : Int) == 2) = false := by simp; omega
      simp only [e, getK, setK, Option.isSome_some, eqM_int, neM_int, kit_ii, kit_bi, kit_ni, kit_si, kit_ti, kit_li, kit_ib, kit_bb, kit_tt, kit_it, kit_bt, kit_nt, kit_st, kit_lt, atI0, atI1, atI2, ixN30, ixN31, ixN32, mFn, startM, mSeq, mIf, mAsg, mRet, mRetN, mDrop, mNext, gN, gT, gsCons, gsNil, gIx, mVar, mInt, mBl, mNon, mStr, mC, mOp1, mOp2, int2, plusM, addM, mulM2, negM, isM, isNotM, isNotM2, isM2, mAug, rg1, rg2, mLstRg, mLstRgC, mTupRg, isNoneM, tV, tNo, tAn, Mini.tOr, mAnd, mOr, mNot, Mini.notM, Bool.not_false, Bool.not_true, Bool.false_eq_true, if_false, if_true, reduceIte, mIfE, aNil, aCons, mTup, mLst, mLstC, mSl, slM, pNo, pAt, mB, mCall, lenM, listM, listMC, tupleM, intM, boolM, ixM, ixV, seqOf, lstOf, Mini.cellOf, mPar, mPar3, mLc, mLcC, mFor, iSeq, Mini.iRng1, Mini.iRng2, Mini.iEnum, Mini.iZip, mIsi, isiM, tyM, mMt, mMt0, appendM, extendM, popM, catF, catF.lstM, mChain, tAll, wipeM, mdK, Prod.mk.injEq, and_assoc, List.map_cons, List.map_nil, List.length_cons, List.length_nil, List.replicate, List.cons_append, List.nil_append, List.getElem?_cons_zero, List.getElem?_cons_succ, List.set_cons_zero, List.set_cons_succ, Option.some.injEq, exists_eq_left', exists_eq_left, true_and, and_true, List.cons.injEq, MV.int.injEq, MV.bl.injEq, MV.tup.injEq, MV.fl.injEq, MV.str.injEq, MV.ref.injEq, Option.bind_some, exists_and_left, exists_const, Nat.sub_self, Nat.reduceSub, Nat.reduceAdd, List.append_nil, List.nil_append, List.length_map, Nat.add_zero, Nat.zero_add]
      refine bl_end hh ?_
      rwa [planB_len hl] at k
  all_goals
    simp only [getK, setK, Option.isSome_some, eqM_int, neM_int, kit_ii, kit_bi, kit_ni, kit_si, kit_ti, kit_li, kit_ib, kit_bb, kit_tt, kit_it, kit_bt, kit_nt, kit_st, kit_lt, atI0, atI1, atI2, ixN30, ixN31, ixN32, mFn, startM, mSeq, mIf, mAsg, mRet, mRetN, mDrop, mNext, gN, gT, gsCons, gsNil, gIx, mVar, mInt, mBl, mNon, mStr, mC, mOp1, mOp2, int2, plusM, addM, mulM2, negM, isM, isNotM, isNotM2, isM2, mAug, rg1, rg2, mLstRg, mLstRgC, mTupRg, isNoneM, tV, tNo, tAn, Mini.tOr, mAnd, mOr, mNot, Mini.notM, Bool.not_false, Bool.not_true, Bool.false_eq_true, if_false, if_true, reduceIte, mIfE, aNil, aCons, mTup, mLst, mLstC, mSl, slM, pNo, pAt, mB, mCall, lenM, listM, listMC, tupleM, intM, boolM, ixM, ixV, seqOf, lstOf, Mini.cellOf, mPar, mPar3, mLc, mLcC, mFor, iSeq, Mini.iRng1, Mini.iRng2, Mini.iEnum, Mini.iZip, mIsi, isiM, tyM, mMt, mMt0, appendM, extendM, popM, catF, catF.lstM, mChain, tAll, wipeM, mdK, Prod.mk.injEq, and_assoc, List.map_cons, List.map_nil, List.length_cons, List.length_nil, List.replicate, List.cons_append, List.nil_append, List.getElem?_cons_zero, List.getElem?_cons_succ, List.set_cons_zero, List.set_cons_succ, Option.some.injEq, exists_eq_left', exists_eq_left, true_and, and_true, List.cons.injEq, MV.int.injEq, MV.bl.injEq, MV.tup.injEq, MV.fl.injEq, MV.str.injEq, MV.ref.injEq, Option.bind_some, exists_and_left, exists_const, Nat.sub_self, Nat.reduceSub, Nat.reduceAdd, List.append_nil, List.nil_append, List.length_map, Nat.add_zero, Nat.zero_add]
    exact bl_end hh k

theorem require_ok {v : MV} {h : MHp} (hh : Hh h) (hv : v.sok = true) (hp : planB v = true) {Q E : MQ} (k : Q .non h) : f_require_endless [v] h Q E := by
  simp only [f_require_endless, b_require_endless, getK, setK, Option.isSome_some, eqM_int, neM_int, kit_ii, kit_bi, kit_ni, kit_si, kit_ti, kit_li, kit_ib, kit_bb, kit_tt, kit_it, kit_bt, kit_nt, kit_st, kit_lt, atI0, atI1, atI2, ixN30, ixN31, ixN32, mFn, startM, mSeq, mIf, mAsg, mRet, mRetN, mDrop, mNext, gN, gT, gsCons, gsNil, gIx, mVar, mInt, mBl, mNon, mStr, mC, mOp1, mOp2, int2, plusM, addM, mulM2, negM, isM, isNotM, isNotM2, isM2, mAug, rg1, rg2, mLstRg, mLstRgC, mTupRg, isNoneM, tV, tNo, tAn, Mini.tOr, mAnd, mOr, mNot, Mini.notM, Bool.not_false, Bool.not_true, Bool.false_eq_true, if_false, if_true, reduceIte, mIfE, aNil, aCons, mTup, mLst, mLstC, mSl, slM, pNo, pAt, mB, mCall, lenM, listM, listMC, tupleM, intM, boolM, ixM, ixV, seqOf, lstOf, Mini.cellOf, mPar, mPar3, mLc, mLcC, mFor, iSeq, Mini.iRng1, Mini.iRng2, Mini.iEnum, Mini.iZip, mIsi, isiM, tyM, mMt, mMt0, appendM, extendM, popM, catF, catF.lstM, mChain, tAll, wipeM, mdK, Prod.mk.injEq, and_assoc, List.map_cons, List.map_nil, List.length_cons, List.length_nil, List.replicate, List.cons_append, List.nil_append, List.getElem?_cons_zero, List.getElem?_cons_succ, List.set_cons_zero, List.set_cons_succ, Option.some.injEq, exists_eq_left', exists_eq_left, true_and, and_true, List.cons.injEq, MV.int.injEq, MV.bl.injEq, MV.tup.injEq, MV.fl.injEq, MV.str.injEq, MV.ref.injEq, Option.bind_some, exists_and_left, exists_const, Nat.sub_self, Nat.reduceSub, Nat.reduceAdd, List.append_nil, List.nil_append, List.length_map, Nat.add_zero, Nat.zero_add]
  refine endless_plan_ok hh hv ⟨_, rfl, ?_⟩
  rw [hp]
  simp only [getK, setK, Option.isSome_some, eqM_int, neM_int, kit_ii, kit_bi, kit_ni, kit_si, kit_ti, kit_li, kit_ib, kit_bb, kit_tt, kit_it, kit_bt, kit_nt, kit_st, kit_lt, atI0, atI1, atI2, ixN30, ixN31, ixN32, mFn, startM, mSeq, mIf, mAsg, mRet, mRetN, mDrop, mNext, gN, gT, gsCons, gsNil, gIx, mVar, mInt, mBl, mNon, mStr, mC, mOp1, mOp2, int2, plusM, addM, mulM2, negM, isM, isNotM, isNotM2, isM2, mAug, rg1, rg2, mLstRg, mLstRgC, mTupRg, isNoneM, tV, tNo, tAn, Mini.tOr, mAnd, mOr, mNot, Mini.notM, Bool.not_false, Bool.not_true, Bool.false_eq_true, if_false, if_true, reduceIte, mIfE, aNil, aCons, mTup, mLst, mLstC, mSl, slM, pNo, pAt, mB, mCall, lenM, listM, listMC, tupleM, intM, boolM, ixM, ixV, seqOf, lstOf, Mini.cellOf, mPar, mPar3, mLc, mLcC, mFor, iSeq, Mini.iRng1, Mini.iRng2, Mini.iEnum, Mini.iZip, mIsi, isiM, tyM, mMt, mMt0, appendM, extendM, popM, catF, catF.lstM, mChain, tAll, wipeM, mdK, Prod.mk.injEq, and_assoc, List.map_cons, List.map_nil, List.length_cons, List.length_nil, List.replicate, List.cons_append, List.nil_append, List.getElem?_cons_zero, List.getElem?_cons_succ, List.set_cons_zero, List.set_cons_succ, Option.some.injEq, exists_eq_left', exists_eq_left, true_and, and_true, List.cons.injEq, MV.int.injEq, MV.bl.injEq, MV.tup.injEq, MV.fl.injEq, MV.str.injEq, MV.ref.injEq, Option.bind_some, exists_and_left, exists_const, Nat.sub_self, Nat.reduceSub, Nat.reduceAdd, List.append_nil, List.nil_append, List.length_map, Nat.add_zero, Nat.zero_add]
  exact mdF_same rfl hh rfl k

end Lw
namespace Lw
open PySem PySem.Spec PyProof.Rows L2 Mini

end Lw
namespace Lw
open PySem PySem.Spec PyProof.Rows L2 Mini PySem.W
def tb : MS := (mSeq (mDrop (mMt extendM (mVar 1) (aCons (mLc (iRng1 (aCons (mOp2 subM (mVar 3) (mInt 1)) aNil)) (gN 4) tAll (mTup (aCons (mTup (aCons (mVar 2) (aCons (mVar 4) aNil))) (aCons (mTup (aCons (mVar 2) (aCons (mOp2 plusM (mVar 4) (mInt 1)) aNil))) (aCons (mInt 0) aNil)))) [4]) aNil)))
    (mDrop (mMt appendM (mVar 1) (aCons (mTup (aCons (mTup (aCons (mVar 2) (aCons (mOp2 subM (mVar 3) (mInt 1)) aNil))) (aCons (mTup (aCons (mVar 2) (aCons (mInt 0) aNil))) (aCons (mInt 1) aNil)))) aNil))))
theorem links_body : b_find_links =
    (mSeq (mAsg (mB listMC (aCons (mOp2 ixM (mVar 0) (mInt 1)) aNil)) (gN 1))
    (mSeq (mFor (iEnum (aCons (mOp2 ixM (mVar 0) (mInt 0)) aNil)) (gT (gsCons (gN 2) (gsCons (gN 3) gsNil)) 2) tb)
    (mRet (mB sortMC (aCons (mVar 1) aNil))))) := rfl
def enumK (k : Nat) (xs : List MV) : List MV := (xs.zipIdx k).map fun p => .tup [.int (p.2 : Nat), p.1]
theorem row_len {q : Nat} {s : Int} (h : s ≤ 4) : (row q s).length ≤ 4 := by
  unfold row
  rw [List.length_append, List.length_map, List.length_range, List.length_singleton]
  omega
theorem rng_row {q : Nat} {s : Int} : (rng 0 (s - 1)).filterMap (fun x => some (wv ((q : Int), toI x, (q : Int), toI x + 1, 0))) = ((List.range (s - 1).toNat).map (fun i : Nat => ((q : Int), (i : Int), (q : Int), (i : Int) + 1, (0 : Int)))).map wv := by
  unfold rng
  rw [List.filterMap_map, List.map_map, ← List.filterMap_eq_map]
  simp only [Int.sub_zero]
  refine fm_congr fun i _ => ?_
  show some (wv ((q : Int), (0 + (i : Int)), (q : Int), (0 + (i : Int)) + 1, 0)) = some (wv ((q : Int), (i : Int), (q : Int), (i : Int) + 1, 0))
  rw [Int.zero_add]
theorem ties_loop {h : MHp} {D : MD} {p z : Option MV} : ∀ (ss : List Int) (k : Nat) (fs : List T5) (x y : Option MV), fs.length + 10 * ss.length ≤ 1000 → (∀ s ∈ ss, 1 ≤ s ∧ s ≤ 4) →
    (∀ x y, D.nx [p, some (.ref h.length), x, y, z] (h ++ [.lst ((fs ++ rows k ss).map wv)])) →
    forM (fun _ => True) (gT (gsCons (gN 2) (gsCons (gN 3) gsNil)) 2) tb (enumK k (ss.map .int)) [p, some (.ref h.length), x, y, z] (h ++ [.lst (fs.map wv)]) D
  | [], k, fs, x, y, _, _, hn => by
    have := hn x y
    rw [rows, List.append_nil] at this
    exact ⟨trivial, this⟩
  | s :: ss, k, fs, x, y, hl, hs, hn => by
    have ih := ties_loop (h := h) (D := D) (p := p) (z := z) ss (k + 1) (fs ++ row k s)
    have hs1 := hs s List.mem_cons_self
    have hr := row_len (q := k) hs1.2
    rw [List.length_cons] at hl
    have good : ∀ x y, forM (fun _ => True) (gT (gsCons (gN 2) (gsCons (gN 3) gsNil)) 2) tb (enumK (k + 1) (ss.map .int)) [p, some (.ref h.length), x, y, z] (h ++ [.lst ((fs ++ row k s).map wv)]) D := fun x y => by
      refine ih x y (by rw [List.length_append]; omega) (fun t ht => hs t (List.mem_cons_of_mem _ ht)) fun x y => ?_
      have := hn x y
      rw [rows, ← List.append_assoc] at this
      exact this
    clear ih hn
    have e : enumK k ((s :: ss).map .int) = .tup [.int (k : Nat), .int s] :: enumK (k + 1) (ss.map .int) := by
      unfold enumK
      rw [List.map_cons, List.zipIdx_cons, List.map_cons]
    rw [e]
    refine ⟨trivial, ?_⟩
    have gk : ∀ K : MSt → MHp → Prop, (∀ x y, K [p, some (.ref h.length), x, y, z] (h ++ [.lst ((fs ++ row k s).map wv)])) → gT (gsCons (gN 2) (gsCons (gN 3) gsNil)) 2 (.tup [.int (k : Nat), .int s]) [p, some (.ref h.length), x, y, z] (h ++ [.lst (fs.map wv)]) (fun s1 h1 => tb s1 h1 { D with nx := K, ct := K, bk := D.nx }) (fun e h' => D.ex e [p, some (.ref h.length), x, y, z] h') := by
      clear good
      intro K good
      simp only [tb, getK, setK, Option.isSome_some, eqM_int, neM_int, kit_ii, kit_bi, kit_ni, kit_si, kit_ti, kit_li, kit_ib, kit_bb, kit_tt, kit_it, kit_bt, kit_nt, kit_st, kit_lt, atI0, atI1, atI2, ixN30, ixN31, ixN32, mFn, startM, mSeq, mIf, mAsg, mRet, mRetN, mDrop, mNext, gN, gT, gsCons, gsNil, gIx, mVar, mInt, mBl, mNon, mStr, mC, mOp1, mOp2, int2, plusM, addM, mulM2, negM, isM, isNotM, isNotM2, isM2, mAug, rg1, rg2, mLstRg, mLstRgC, mTupRg, isNoneM, tV, tNo, tAn, Mini.tOr, mAnd, mOr, mNot, Mini.notM, Bool.not_false, Bool.not_true, Bool.false_eq_true, if_false, if_true, reduceIte, mIfE, aNil, aCons, mTup, mLst, mLstC, mSl, slM, pNo, pAt, mB, mCall, lenM, listM, listMC, tupleM, intM, boolM, ixM, ixV, seqOf, lstOf, Mini.cellOf, mPar, mPar3, mLc, mLcC, mFor, iSeq, Mini.iRng1, Mini.iRng2, Mini.iEnum, Mini.iZip, mIsi, isiM, tyM, mMt, mMt0, appendM, extendM, popM, catF, catF.lstM, mChain, tAll, wipeM, mdK, Prod.mk.injEq, and_assoc, List.map_cons, List.map_nil, List.length_cons, List.length_nil, List.replicate, List.cons_append, List.nil_append, List.getElem?_cons_zero, List.getElem?_cons_succ, List.set_cons_zero, List.set_cons_succ, Option.some.injEq, exists_eq_left', exists_eq_left, true_and, and_true, List.cons.injEq, MV.int.injEq, MV.bl.injEq, MV.tup.injEq, MV.fl.injEq, MV.str.injEq, MV.ref.injEq, Option.bind_some, exists_and_left, exists_const, Nat.sub_self, Nat.reduceSub, Nat.reduceAdd, List.append_nil, List.nil_append, List.length_map, Nat.add_zero, Nat.zero_add]
      refine ⟨by omega, by omega, ?_⟩
      refine comp_pure (f := fun x => some (wv ((k : Int), toI x, (k : Int), toI x + 1, 0))) trivial _ [] ?_ (fun x hx' acc K ha hk => ?_) ?_
      · unfold rng
        rw [sizeLine_eq, List.length_map, List.length_range, List.length_nil]
        omega
      · unfold rng at hx'
        obtain ⟨i, _, rfl⟩ := List.mem_map.mp hx'
        simp only [tAll, getK, setK, Option.isSome_some, eqM_int, neM_int, kit_ii, kit_bi, kit_ni, kit_si, kit_ti, kit_li, kit_ib, kit_bb, kit_tt, kit_it, kit_bt, kit_nt, kit_st, kit_lt, atI0, atI1, atI2, ixN30, ixN31, ixN32, mFn, startM, mSeq, mIf, mAsg, mRet, mRetN, mDrop, mNext, gN, gT, gsCons, gsNil, gIx, mVar, mInt, mBl, mNon, mStr, mC, mOp1, mOp2, int2, plusM, addM, mulM2, negM, isM, isNotM, isNotM2, isM2, mAug, rg1, rg2, mLstRg, mLstRgC, mTupRg, isNoneM, tV, tNo, tAn, Mini.tOr, mAnd, mOr, mNot, Mini.notM, Bool.not_false, Bool.not_true, Bool.false_eq_true, if_false, if_true, reduceIte, mIfE, aNil, aCons, mTup, mLst, mLstC, mSl, slM, pNo, pAt, mB, mCall, lenM, listM, listMC, tupleM, intM, boolM, ixM, ixV, seqOf, lstOf, Mini.cellOf, mPar, mPar3, mLc, mLcC, mFor, iSeq, Mini.iRng1, Mini.iRng2, Mini.iEnum, Mini.iZip, mIsi, isiM, tyM, mMt, mMt0, appendM, extendM, popM, catF, catF.lstM, mChain, tAll, wipeM, mdK, Prod.mk.injEq, and_assoc, List.map_cons, List.map_nil, List.length_cons, List.length_nil, List.replicate, List.cons_append, List.nil_append, List.getElem?_cons_zero, List.getElem?_cons_succ, List.set_cons_zero, List.set_cons_succ, Option.some.injEq, exists_eq_left', exists_eq_left, true_and, and_true, List.cons.injEq, MV.int.injEq, MV.bl.injEq, MV.tup.injEq, MV.fl.injEq, MV.str.injEq, MV.ref.injEq, Option.bind_some, exists_and_left, exists_const, Nat.sub_self, Nat.reduceSub, Nat.reduceAdd, List.append_nil, List.nil_append, List.length_map, Nat.add_zero, Nat.zero_add]
        exact ⟨smallLine (by decide), smallLine (by decide), smallLine (by decide), ha, hk⟩
      · rw [List.nil_append, rng_row]
        refine ⟨h.length, fs.map wv, by rw [getK], _, .inl rfl, ?_, ?_⟩
        · rw [sizeLine_eq]
          simp only [List.length_map, List.length_range]
          omega
        · rw [setK, getK]
          refine ⟨rfl, smallLine (by decide), smallLine (by decide), smallLine (by decide), h.length, _, rfl, ?_, ?_⟩
          · rw [sizeLine_eq]
            simp only [List.length_append, List.length_map, List.length_range]
            omega
          · rw [setK]
            have := good (some (.int k)) (some (.int s))
            unfold row at this
            rw [← List.append_assoc, List.map_append, List.map_append] at this
            exact this
    exact gk _ good

theorem mdC_new {n : Nat} {Q : MQ} {i : Nat} {xs : List MV} {h u : MHp} (hl : h.length = n) (ho : oldOk n h = true) (hi : n ≤ i) (hc : (h ++ u)[i]? = some (.lst xs)) (hv : sokAll xs = true) (q : Q (.ref n) (h ++ [.lst xs])) : mdC n Q (.ref i) (h ++ u) := by
  have e : (h ++ u).take n = h := by rw [← hl, List.take_left']; rfl
  refine ⟨i, xs, rfl, hi, hc, ?_, loAll_sok n xs hv, by rw [e]; exact q⟩
  unfold oldOk at ho ⊢
  rw [e]
  rw [List.take_of_length_le (by omega)] at ho
  exact ho
abbrev plan (ss : List Int) (es : List T5) : MV := .tup [.tup (ss.map .int), .tup (es.map wv)]
def tiesOf (ss : List Int) (es : List T5) : List T5 := srt (es ++ rows 0 ss)
theorem rows_len : ∀ (ss : List Int) (k : Nat), (∀ s ∈ ss, 1 ≤ s ∧ s ≤ 4) → (rows k ss).length ≤ 4 * ss.length
  | [], _, _ => by simp [rows]
  | s :: ss, k, h => by
    have a := row_len (q := k) (h s List.mem_cons_self).2
    have b := rows_len ss (k + 1) fun t ht => h t (List.mem_cons_of_mem _ ht)
    rw [rows, List.length_append, List.length_cons]
    omega
theorem find_links_ok {ss : List Int} {es : List T5} (hl : ss.length ≤ 4) (he : es.length ≤ 12) (hs : ∀ s ∈ ss, 1 ≤ s ∧ s ≤ 4) {h : MHp} (hh : Hh h) {Q E : MQ} (k : Q (.ref h.length) (h ++ [.lst ((tiesOf ss es).map wv)])) : f_find_links [plan ss es] h Q E := by
  simp only [f_find_links, links_body, getK, setK, Option.isSome_some, eqM_int, neM_int, kit_ii, kit_bi, kit_ni, kit_si, kit_ti, kit_li, kit_ib, kit_bb, kit_tt, kit_it, kit_bt, kit_nt, kit_st, kit_lt, atI0, atI1, atI2, ixN30, ixN31, ixN32, mFn, startM, mSeq, mIf, mAsg, mRet, mRetN, mDrop, mNext, gN, gT, gsCons, gsNil, gIx, mVar, mInt, mBl, mNon, mStr, mC, mOp1, mOp2, int2, plusM, addM, mulM2, negM, isM, isNotM, isNotM2, isM2, mAug, rg1, rg2, mLstRg, mLstRgC, mTupRg, isNoneM, tV, tNo, tAn, Mini.tOr, mAnd, mOr, mNot, Mini.notM, Bool.not_false, Bool.not_true, Bool.false_eq_true, if_false, if_true, reduceIte, mIfE, aNil, aCons, mTup, mLst, mLstC, mSl, slM, pNo, pAt, mB, mCall, lenM, listM, listMC, tupleM, intM, boolM, ixM, ixV, seqOf, lstOf, Mini.cellOf, mPar, mPar3, mLc, mLcC, mFor, iSeq, Mini.iRng1, Mini.iRng2, Mini.iEnum, Mini.iZip, mIsi, isiM, tyM, mMt, mMt0, appendM, extendM, popM, catF, catF.lstM, mChain, tAll, wipeM, mdK, Prod.mk.injEq, and_assoc, List.map_cons, List.map_nil, List.length_cons, List.length_nil, List.replicate, List.cons_append, List.nil_append, List.getElem?_cons_zero, List.getElem?_cons_succ, List.set_cons_zero, List.set_cons_succ, Option.some.injEq, exists_eq_left', exists_eq_left, true_and, and_true, List.cons.injEq, MV.int.injEq, MV.bl.injEq, MV.tup.injEq, MV.fl.injEq, MV.str.injEq, MV.ref.injEq, Option.bind_some, exists_and_left, exists_const, Nat.sub_self, Nat.reduceSub, Nat.reduceAdd, List.append_nil, List.nil_append, List.length_map, Nat.add_zero, Nat.zero_add]
  refine ties_loop ss 0 es none none (by omega) hs fun x y => ?_
  simp only [getK, setK, Option.isSome_some, eqM_int, neM_int, kit_ii, kit_bi, kit_ni, kit_si, kit_ti, kit_li, kit_ib, kit_bb, kit_tt, kit_it, kit_bt, kit_nt, kit_st, kit_lt, atI0, atI1, atI2, ixN30, ixN31, ixN32, mFn, startM, mSeq, mIf, mAsg, mRet, mRetN, mDrop, mNext, gN, gT, gsCons, gsNil, gIx, mVar, mInt, mBl, mNon, mStr, mC, mOp1, mOp2, int2, plusM, addM, mulM2, negM, isM, isNotM, isNotM2, isM2, mAug, rg1, rg2, mLstRg, mLstRgC, mTupRg, isNoneM, tV, tNo, tAn, Mini.tOr, mAnd, mOr, mNot, Mini.notM, Bool.not_false, Bool.not_true, Bool.false_eq_true, if_false, if_true, reduceIte, mIfE, aNil, aCons, mTup, mLst, mLstC, mSl, slM, pNo, pAt, mB, mCall, lenM, listM, listMC, tupleM, intM, boolM, ixM, ixV, seqOf, lstOf, Mini.cellOf, mPar, mPar3, mLc, mLcC, mFor, iSeq, Mini.iRng1, Mini.iRng2, Mini.iEnum, Mini.iZip, mIsi, isiM, tyM, mMt, mMt0, appendM, extendM, popM, catF, catF.lstM, mChain, tAll, wipeM, mdK, Prod.mk.injEq, and_assoc, List.map_cons, List.map_nil, List.length_cons, List.length_nil, List.replicate, List.cons_append, List.nil_append, List.getElem?_cons_zero, List.getElem?_cons_succ, List.set_cons_zero, List.set_cons_succ, Option.some.injEq, exists_eq_left', exists_eq_left, true_and, and_true, List.cons.injEq, MV.int.injEq, MV.bl.injEq, MV.tup.injEq, MV.fl.injEq, MV.str.injEq, MV.ref.injEq, Option.bind_some, exists_and_left, exists_const, Nat.sub_self, Nat.reduceSub, Nat.reduceAdd, List.append_nil, List.nil_append, List.length_map, Nat.add_zero, Nat.zero_add]
  have hr := rows_len ss 0 hs
  refine ⟨.ref h.length, (es ++ rows 0 ss).map wv, rfl, by show (match (h ++ [Cell.lst ((es ++ rows 0 ss).map wv)])[h.length]? with | some (.lst xs) => some xs | _ => none) = _; rw [getK], wv_sort (by rw [List.length_append]; omega), ?_⟩
  rw [srt_W, List.append_assoc]
  exact mdC_new rfl hh (by rw [List.length_append]; omega) (by rw [← List.append_assoc, getK] <;> rfl) (wv_sok_all _) k
end Lw
namespace Lw
open PySem PySem.Spec PyProof.Rows L2 Mini PySem.W
structure Gd (v : MV) : Prop where
  sok : v.sok = true
  shb : v.shb = true
  dep : v.dep ≤ 50
  sz : v.sz ≤ 16000000
theorem der_sok {v : MV} {h : MHp} (hv : v.sok = true) : der h v = v := by
  cases v <;> first | rfl | (simp [MV.sok] at hv)
theorem repr_ok {v : MV} {h : MHp} (hv : Gd v) {Q : MQ} (k : Q (.str v.dat.shown) h) : reprM2 [v] h Q :=
  ⟨v, rfl, by rw [der_sok hv.sok]; exact hv.sok, by rw [der_sok hv.sok]; exact rok_of hv.sok hv.shb hv.dep (by have := hv.sz; omega), by rw [der_sok hv.sok]; exact k⟩
theorem gd_bl (b : Bool) : Gd (.bl b) := ⟨rfl, rfl, by simp [MV.dep], by simp [MV.sz]⟩
theorem wv_sz (p : T5) : (wv p).sz = 9631 := by simp [wv, MV.sz, szAll]
theorem wv_szAll : ∀ es : List T5, szAll (es.map wv) ≤ 9633 * es.length
  | [] => by simp [szAll]
  | p :: es => by
    have := wv_szAll es
    simp only [List.map_cons, szAll, wv_sz, List.length_cons]
    omega
def small (p : T5) : Prop := (wv p).shb = true
theorem shbAll_iff {xs : List MV} : shbAll xs = true ↔ ∀ x ∈ xs, x.shb = true := by
  induction xs with
  | nil => simp [shbAll]
  | cons x xs ih => simp [shbAll, ih]
theorem tiesOf_len {ss : List Int} {es : List T5} (hl : ss.length ≤ 4) (he : es.length ≤ 12) (hs : ∀ s ∈ ss, 1 ≤ s ∧ s ≤ 4) : (tiesOf ss es).length ≤ 28 := by
  have := rows_len ss 0 hs
  unfold tiesOf srt
  rw [List.length_mergeSort, List.length_append]
  omega
theorem log2_small {i : Int} (h0 : -1000 ≤ i) (h1 : i ≤ 1000) : i.natAbs.log2 < 1920 := by
  by_cases h : i.natAbs = 0
  · rw [h]; decide
  · refine (Nat.log2_lt h).mpr (Nat.lt_of_lt_of_le (show i.natAbs < 2 ^ 10 by omega) (Nat.pow_le_pow_right (by decide) (by decide)))
theorem small_of {a b c d e : Int} (ha : 0 ≤ a ∧ a ≤ 1000) (hb : 0 ≤ b ∧ b ≤ 1000) (hc : 0 ≤ c ∧ c ≤ 1000) (hd : 0 ≤ d ∧ d ≤ 1000) (he : 0 ≤ e ∧ e ≤ 1000) : small (a, b, c, d, e) := by
  unfold small
  simp only [wv, MV.shb, shbAll, Bool.and_true, Bool.and_eq_true, decide_eq_true_eq]
  exact ⟨⟨log2_small (by omega) ha.2, log2_small (by omega) hb.2⟩, ⟨log2_small (by omega) hc.2, log2_small (by omega) hd.2⟩, log2_small (by omega) he.2⟩
theorem pen_Hh {t : MHp} (ht : TOk t) (cs : List Int) (a v : Int) : Hh (pen cs a v t) := pen_ok ht cs a v
structure GA (xs : List MV) (S d : Nat) : Prop where
  sok : sokAll xs = true
  shb : shbAll xs = true
  dep : depAll xs ≤ d
  sz : szAll xs ≤ S
theorem depAll_le {xs : List MV} {d : Nat} : depAll xs ≤ d ↔ ∀ x ∈ xs, x.dep ≤ d := by
  induction xs with
  | nil => simp [depAll]
  | cons x xs ih => simp [depAll, Nat.max_le, ih]
theorem szAll_append : ∀ xs ys : List MV, szAll (xs ++ ys) = szAll xs + szAll ys
  | [], ys => by simp [szAll]
  | x :: xs, ys => by simp only [List.cons_append, szAll, szAll_append xs ys]; omega
theorem szAll_take (xs : List MV) (k : Nat) : szAll (xs.take k) ≤ szAll xs := by
  conv => rhs; rw [← List.take_append_drop k xs, szAll_append]
  omega
theorem szAll_drop (xs : List MV) (k : Nat) : szAll (xs.drop k) ≤ szAll xs := by
  conv => rhs; rw [← List.take_append_drop k xs, szAll_append]
  omega
theorem GA.sub {xs ys : List MV} {S d : Nat} (g : GA xs S d) (h : ∀ y ∈ ys, y ∈ xs) (hz : szAll ys ≤ S) : GA ys S d :=
  ⟨sokAll_iff.mpr fun y hy => sokAll_iff.mp g.sok y (h y hy), shbAll_iff.mpr fun y hy => shbAll_iff.mp g.shb y (h y hy), depAll_le.mpr fun y hy => depAll_le.mp g.dep y (h y hy), hz⟩
theorem GA.cut {xs : List MV} {S d : Nat} (g : GA xs S d) (lo hi : Option Int) : GA (cutM xs lo hi) S d := by
  unfold cutM
  exact g.sub (fun y hy => List.mem_of_mem_drop (List.mem_of_mem_take hy)) (Nat.le_trans (szAll_take _ _) (Nat.le_trans (szAll_drop _ _) g.sz))
theorem GA.app {xs ys : List MV} {S S' d : Nat} (g : GA xs S d) (g' : GA ys S' d) : GA (xs ++ ys) (S + S') d :=
  ⟨sokAll_iff.mpr fun y hy => (List.mem_append.mp hy).elim (sokAll_iff.mp g.sok y) (sokAll_iff.mp g'.sok y), shbAll_iff.mpr fun y hy => (List.mem_append.mp hy).elim (shbAll_iff.mp g.shb y) (shbAll_iff.mp g'.shb y),
    depAll_le.mpr fun y hy => (List.mem_append.mp hy).elim (depAll_le.mp g.dep y) (depAll_le.mp g'.dep y), by rw [szAll_append]; have := g.sz; have := g'.sz; omega⟩
theorem GA.len {xs : List MV} {S d : Nat} (g : GA xs S d) : 2 * xs.length ≤ S := by
  have : ∀ xs : List MV, 2 * xs.length ≤ szAll xs := by
    intro xs
    induction xs with
    | nil => simp
    | cons x xs ih => rw [List.length_cons]; simp only [szAll]; omega
  exact Nat.le_trans (this xs) g.sz
structure GV (v : MV) (S d : Nat) : Prop where
  sok : v.sok = true
  shb : v.shb = true
  dep : v.dep ≤ d
  sz : v.sz ≤ S
theorem GA.tup {xs : List MV} {S d : Nat} (g : GA xs S d) : GV (.tup xs) (S + 4) (d + 1) := ⟨by simpa [MV.sok] using g.sok, by simpa [MV.shb] using g.shb, by simp only [MV.dep]; exact Nat.succ_le_succ g.dep, by simp only [MV.sz]; exact Nat.add_le_add_right g.sz 4⟩
theorem GA.lst {xs : List MV} {S d : Nat} (g : GA xs S d) : GV (.fl xs) (S + 4) (d + 1) := ⟨by simpa [MV.sok] using g.sok, by simpa [MV.shb] using g.shb, by simp only [MV.dep]; exact Nat.succ_le_succ g.dep, by simp only [MV.sz]; exact Nat.add_le_add_right g.sz 4⟩
theorem GV.all {xs : List MV} {S d : Nat} (g : GV (.tup xs) S (d + 1)) : GA xs S d := ⟨by simpa [MV.sok] using g.sok, by simpa [MV.shb] using g.shb, by have := g.dep; simp only [MV.dep] at this; omega, by have := g.sz; simp only [MV.sz] at this; omega⟩
theorem GV.mono {v : MV} {S d S' d' : Nat} (g : GV v S d) (h : S ≤ S') (h' : d ≤ d') : GV v S' d' := ⟨g.sok, g.shb, Nat.le_trans g.dep h', Nat.le_trans g.sz h⟩
theorem GA.at {xs : List MV} {S d : Nat} (g : GA xs S d) {x : MV} (h : x ∈ xs) : GV x S d := by
  refine ⟨sokAll_iff.mp g.sok x h, shbAll_iff.mp g.shb x h, depAll_le.mp g.dep x h, Nat.le_trans ?_ g.sz⟩
  clear g
  induction xs with
  | nil => cases h
  | cons y ys ih =>
    simp only [szAll]
    rcases List.mem_cons.mp h with rfl | h
    · omega
    · have := ih h; omega
theorem GA.one {x : MV} {S d : Nat} (g : GV x S d) : GA [x] (S + 2) d := ⟨by simp [sokAll, g.sok], by simp [shbAll, g.shb], by simp [depAll, g.dep], by simp [szAll, g.sz]⟩
end Lw
namespace Lw
open PySem PySem.Spec PyProof.Rows L2 Mini PySem.W
def opb : MS := (mAsg (mOp2 plusM (mOp2 ixM (mVar 1) (mOp2 modM (mB intM (aCons (mVar 2) aNil)) (mInt 12))) (mVar 3)) (gIx (mVar 1) (mOp2 modM (mB intM (aCons (mVar 2) aNil)) (mInt 12))))
theorem open_body : b__law_open =
    (mSeq (mAsg (mB listMC (aCons (mSl slM (mVar 0) pNo (pAt (mInt 12))) aNil)) (gN 1))
    (mSeq (mFor (iEnum (aCons (mSl slM (mVar 0) (pAt (mInt 12)) (pAt (mInt 63))) aNil)) (gT (gsCons (gN 2) (gsCons (gN 3) gsNil)) 2) opb)
    (mRet (mLstC (aCons (mVar 1) (aCons (mInt 0) (aCons (mInt 0) aNil))))))) := rfl
theorem cut_ints (ns : List Int) (lo hi : Option Int) : cutM (ns.map MV.int) lo hi = (cutM ns lo hi).map .int := by
  unfold cutM
  rw [List.map_take, List.map_drop, List.length_map]
theorem set_ints {cs : List Int} {i : Nat} {c : Int} : (cs.map MV.int).set i (.int c) = (cs.set i c).map .int := by rw [List.map_set]
theorem open_loop {ok : MHp → Prop} (hok : ∀ h, ok h) {D : MD} {p : Option MV} : ∀ (ms : List Int) (k : Nat) (cs : List Int) (x y : Option MV), (ms ≠ [] → cs.length = 12) →
    (∀ (cs : List Int) (x y : Option MV), D.nx [p, some (.ref 0), x, y] [.lst (cs.map .int)]) → forM ok (gT (gsCons (gN 2) (gsCons (gN 3) gsNil)) 2) opb (enumK k (ms.map .int)) [p, some (.ref 0), x, y] [.lst (cs.map .int)] D
  | [], k, cs, x, y, _, hn => ⟨hok _, hn cs x y⟩
  | m :: ms, k, cs, x, y, hl, hn => by
    have h12 := hl (by simp)
    have good := fun cs x y h => open_loop hok (D := D) (p := p) ms (k + 1) cs x y h hn
    have e : enumK k ((m :: ms).map .int) = .tup [.int (k : Nat), .int m] :: enumK (k + 1) (ms.map .int) := by
      unfold enumK
      rw [List.map_cons, List.zipIdx_cons, List.map_cons]
    rw [e]
    refine ⟨hok _, ?_⟩
    have gk : ∀ K : MSt → MHp → Prop, (∀ (cs : List Int) (x y : Option MV), cs.length = 12 → K [p, some (.ref 0), x, y] [.lst (cs.map .int)]) → gT (gsCons (gN 2) (gsCons (gN 3) gsNil)) 2 (.tup [.int (k : Nat), .int m]) [p, some (.ref 0), x, y] [.lst (cs.map .int)] (fun s1 h1 => opb s1 h1 { D with nx := K, ct := K, bk := D.nx }) (fun e h' => D.ex e [p, some (.ref 0), x, y] h') := by
      clear good
      intro K good
      have b := fmod_bd (i := (k : Int)) (j := 12) (by decide)
      obtain ⟨v, e1, e2⟩ := atI_at (xs := cs.map MV.int) b.1 (by rw [List.length_map, h12]; exact b.2)
      rw [List.getElem?_map, Option.map_eq_some_iff] at e2
      obtain ⟨c, hc, rfl⟩ := e2
      simp only [opb, getK, setK, Option.isSome_some, eqM_int, neM_int, kit_ii, kit_bi, kit_ni, kit_si, kit_ti, kit_li, kit_ib, kit_bb, kit_tt, kit_it, kit_bt, kit_nt, kit_st, kit_lt, atI0, atI1, atI2, ixN30, ixN31, ixN32, mFn, startM, mSeq, mIf, mAsg, mRet, mRetN, mDrop, mNext, gN, gT, gsCons, gsNil, gIx, mVar, mInt, mBl, mNon, mStr, mC, mOp1, mOp2, int2, plusM, addM, mulM2, negM, isM, isNotM, isNotM2, isM2, mAug, rg1, rg2, mLstRg, mLstRgC, mTupRg, isNoneM, tV, tNo, tAn, Mini.tOr, mAnd, mOr, mNot, Mini.notM, Bool.not_false, Bool.not_true, Bool.false_eq_true, if_false, if_true, reduceIte, mIfE, aNil, aCons, mTup, mLst, mLstC, mSl, slM, pNo, pAt, mB, mCall, lenM, listM, listMC, tupleM, intM, boolM, ixM, ixV, seqOf, lstOf, Mini.cellOf, mPar, mPar3, mLc, mLcC, mFor, iSeq, Mini.iRng1, Mini.iRng2, Mini.iEnum, Mini.iZip, mIsi, isiM, tyM, mMt, mMt0, appendM, extendM, popM, catF, catF.lstM, mChain, tAll, wipeM, mdK, Prod.mk.injEq, and_assoc, List.map_cons, List.map_nil, List.length_cons, List.length_nil, List.replicate, List.cons_append, List.nil_append, List.getElem?_cons_zero, List.getElem?_cons_succ, List.set_cons_zero, List.set_cons_succ, Option.some.injEq, exists_eq_left', exists_eq_left, true_and, and_true, List.cons.injEq, MV.int.injEq, MV.bl.injEq, MV.tup.injEq, MV.fl.injEq, MV.str.injEq, MV.ref.injEq, Option.bind_some, exists_and_left, exists_const, Nat.sub_self, Nat.reduceSub, Nat.reduceAdd, List.append_nil, List.nil_append, List.length_map, Nat.add_zero, Nat.zero_add]
      refine ⟨by decide, _, e1, ?_⟩
      simp only [getK, setK, Option.isSome_some, eqM_int, neM_int, kit_ii, kit_bi, kit_ni, kit_si, kit_ti, kit_li, kit_ib, kit_bb, kit_tt, kit_it, kit_bt, kit_nt, kit_st, kit_lt, atI0, atI1, atI2, ixN30, ixN31, ixN32, mFn, startM, mSeq, mIf, mAsg, mRet, mRetN, mDrop, mNext, gN, gT, gsCons, gsNil, gIx, mVar, mInt, mBl, mNon, mStr, mC, mOp1, mOp2, int2, plusM, addM, mulM2, negM, isM, isNotM, isNotM2, isM2, mAug, rg1, rg2, mLstRg, mLstRgC, mTupRg, isNoneM, tV, tNo, tAn, Mini.tOr, mAnd, mOr, mNot, Mini.notM, Bool.not_false, Bool.not_true, Bool.false_eq_true, if_false, if_true, reduceIte, mIfE, aNil, aCons, mTup, mLst, mLstC, mSl, slM, pNo, pAt, mB, mCall, lenM, listM, listMC, tupleM, intM, boolM, ixM, ixV, seqOf, lstOf, Mini.cellOf, mPar, mPar3, mLc, mLcC, mFor, iSeq, Mini.iRng1, Mini.iRng2, Mini.iEnum, Mini.iZip, mIsi, isiM, tyM, mMt, mMt0, appendM, extendM, popM, catF, catF.lstM, mChain, tAll, wipeM, mdK, Prod.mk.injEq, and_assoc, List.map_cons, List.map_nil, List.length_cons, List.length_nil, List.replicate, List.cons_append, List.nil_append, List.getElem?_cons_zero, List.getElem?_cons_succ, List.set_cons_zero, List.set_cons_succ, Option.some.injEq, exists_eq_left', exists_eq_left, true_and, and_true, List.cons.injEq, MV.int.injEq, MV.bl.injEq, MV.tup.injEq, MV.fl.injEq, MV.str.injEq, MV.ref.injEq, Option.bind_some, exists_and_left, exists_const, Nat.sub_self, Nat.reduceSub, Nat.reduceAdd, List.append_nil, List.nil_append, List.length_map, Nat.add_zero, Nat.zero_add]
      refine ⟨by decide, ((k : Int).fmod 12).toNat, ?_, ?_⟩
      · unfold ixN
        rw [h12, if_pos b.1, if_pos (show (k : Int).fmod 12 < ((12 : Nat) : Int) from b.2)]
      · rw [set_ints]
        exact good _ _ _ (by rw [List.length_set]; exact h12)
    exact gk _ fun cs x y h => good cs x y fun _ => h
theorem open_ok {ns : List Int} {Q E : MQ} (k : ∀ cs, Q (.ref 1) (pen cs 0 0 [])) : f__law_open [.sc (ns.map .int)] [] Q E := by
  simp only [f__law_open, open_body, getK, setK, Option.isSome_some, eqM_int, neM_int, kit_ii, kit_bi, kit_ni, kit_si, kit_ti, kit_li, kit_ib, kit_bb, kit_tt, kit_it, kit_bt, kit_nt, kit_st, kit_lt, atI0, atI1, atI2, ixN30, ixN31, ixN32, mFn, startM, mSeq, mIf, mAsg, mRet, mRetN, mDrop, mNext, gN, gT, gsCons, gsNil, gIx, mVar, mInt, mBl, mNon, mStr, mC, mOp1, mOp2, int2, plusM, addM, mulM2, negM, isM, isNotM, isNotM2, isM2, mAug, rg1, rg2, mLstRg, mLstRgC, mTupRg, isNoneM, tV, tNo, tAn, Mini.tOr, mAnd, mOr, mNot, Mini.notM, Bool.not_false, Bool.not_true, Bool.false_eq_true, if_false, if_true, reduceIte, mIfE, aNil, aCons, mTup, mLst, mLstC, mSl, slM, pNo, pAt, mB, mCall, lenM, listM, listMC, tupleM, intM, boolM, ixM, ixV, seqOf, lstOf, Mini.cellOf, mPar, mPar3, mLc, mLcC, mFor, iSeq, Mini.iRng1, Mini.iRng2, Mini.iEnum, Mini.iZip, mIsi, isiM, tyM, mMt, mMt0, appendM, extendM, popM, catF, catF.lstM, mChain, tAll, wipeM, mdK, Prod.mk.injEq, and_assoc, List.map_cons, List.map_nil, List.length_cons, List.length_nil, List.replicate, List.cons_append, List.nil_append, List.getElem?_cons_zero, List.getElem?_cons_succ, List.set_cons_zero, List.set_cons_succ, Option.some.injEq, exists_eq_left', exists_eq_left, true_and, and_true, List.cons.injEq, MV.int.injEq, MV.bl.injEq, MV.tup.injEq, MV.fl.injEq, MV.str.injEq, MV.ref.injEq, Option.bind_some, exists_and_left, exists_const, Nat.sub_self, Nat.reduceSub, Nat.reduceAdd, List.append_nil, List.nil_append, List.length_map, Nat.add_zero, Nat.zero_add]
  rw [cut_ints, cut_ints]
  refine open_loop (fun h => trivial) _ 0 _ none none (fun hne => ?_) fun cs x y => ?_
  · have hn : 12 < ns.length := by
      rcases Nat.lt_or_ge 12 ns.length with h | h
      · exact h
      · refine absurd ?_ hne
        unfold cutM
        have : HT.sIx ns.length 0 (some (12 : Int)) = ns.length := by
          have := HT.sIx_nat ns.length 0 12
          rw [show ((12 : Nat) : Int) = 12 from rfl] at this
          rw [this]; omega
        rw [this, List.drop_length, List.take_nil]
    unfold cutM
    have e1 : HT.sIx ns.length ns.length (some (12 : Int)) = 12 := by
      have := HT.sIx_nat ns.length ns.length 12
      rw [show ((12 : Nat) : Int) = 12 from rfl] at this
      rw [this]; omega
    rw [e1, HT.sIx_none, List.drop_zero, List.length_take]
    omega
  · simp only [getK, setK, Option.isSome_some, eqM_int, neM_int, kit_ii, kit_bi, kit_ni, kit_si, kit_ti, kit_li, kit_ib, kit_bb, kit_tt, kit_it, kit_bt, kit_nt, kit_st, kit_lt, atI0, atI1, atI2, ixN30, ixN31, ixN32, mFn, startM, mSeq, mIf, mAsg, mRet, mRetN, mDrop, mNext, gN, gT, gsCons, gsNil, gIx, mVar, mInt, mBl, mNon, mStr, mC, mOp1, mOp2, int2, plusM, addM, mulM2, negM, isM, isNotM, isNotM2, isM2, mAug, rg1, rg2, mLstRg, mLstRgC, mTupRg, isNoneM, tV, tNo, tAn, Mini.tOr, mAnd, mOr, mNot, Mini.notM, Bool.not_false, Bool.not_true, Bool.false_eq_true, if_false, if_true, reduceIte, mIfE, aNil, aCons, mTup, mLst, mLstC, mSl, slM, pNo, pAt, mB, mCall, lenM, listM, listMC, tupleM, intM, boolM, ixM, ixV, seqOf, lstOf, Mini.cellOf, mPar, mPar3, mLc, mLcC, mFor, iSeq, Mini.iRng1, Mini.iRng2, Mini.iEnum, Mini.iZip, mIsi, isiM, tyM, mMt, mMt0, appendM, extendM, popM, catF, catF.lstM, mChain, tAll, wipeM, mdK, Prod.mk.injEq, and_assoc, List.map_cons, List.map_nil, List.length_cons, List.length_nil, List.replicate, List.cons_append, List.nil_append, List.getElem?_cons_zero, List.getElem?_cons_succ, List.set_cons_zero, List.set_cons_succ, Option.some.injEq, exists_eq_left', exists_eq_left, true_and, and_true, List.cons.injEq, MV.int.injEq, MV.bl.injEq, MV.tup.injEq, MV.fl.injEq, MV.str.injEq, MV.ref.injEq, Option.bind_some, exists_and_left, exists_const, Nat.sub_self, Nat.reduceSub, Nat.reduceAdd, List.append_nil, List.nil_append, List.length_map, Nat.add_zero, Nat.zero_add]
    exact ⟨smallLine (by decide), k cs⟩
def mb : MS := (mDrop (mMt extendM (mVar 1) (aCons (mLc (iRng1 (aCons (mVar 3) aNil)) (gN 4) tAll (mTup (aCons (mVar 2) (aCons (mVar 4) aNil))) [4]) aNil)))
def pr2 (p : Int × Int) : MV := .tup [.int p.1, .int p.2]
def bd2 (p : Int × Int) : Prop := (0 ≤ p.1 ∧ p.1 ≤ 100) ∧ (0 ≤ p.2 ∧ p.2 ≤ 100)
theorem rng_mrow {q : Nat} {s : Int} : (rng 0 s).filterMap (fun x => some (pr2 ((q : Int), toI x))) = (mrow q s).map pr2 := by
  unfold rng mrow
  rw [List.filterMap_map, List.map_map, ← List.filterMap_eq_map]
  simp only [Int.sub_zero]
  refine fm_congr fun i _ => ?_
  show some (pr2 ((q : Int), (0 + (i : Int)))) = some (pr2 ((q : Int), (i : Int)))
  rw [Int.zero_add]
theorem mrow_len {k : Nat} {s : Int} : (mrow k s).length = s.toNat := by unfold mrow; rw [List.length_map, List.length_range]
theorem mrows_bd : ∀ (ss : List Int) (k : Nat), (∀ s ∈ ss, 1 ≤ s ∧ s ≤ 4) → k + ss.length ≤ 100 → (∀ p ∈ mrows k ss, bd2 p) ∧ (mrows k ss).length ≤ 4 * ss.length
  | [], _, _, _ => ⟨fun p hp => by simp [mrows] at hp, by simp [mrows]⟩
  | s :: ss, k, h, hk => by
    rw [List.length_cons] at hk
    have hs := h s List.mem_cons_self
    obtain ⟨a, b⟩ := mrows_bd ss (k + 1) (fun t ht => h t (List.mem_cons_of_mem _ ht)) (by omega)
    refine ⟨fun p hp => ?_, ?_⟩
    · rw [mrows] at hp
      rcases List.mem_append.mp hp with hp | hp
      · unfold mrow at hp
        obtain ⟨i, hi, rfl⟩ := List.mem_map.mp hp
        have := List.mem_range.mp hi
        exact ⟨⟨by show (0 : Int) ≤ (k : Int); omega, by show (k : Int) ≤ 100; omega⟩, ⟨by show (0 : Int) ≤ (i : Int); omega, by show (i : Int) ≤ 100; omega⟩⟩
      · exact a p hp
    · rw [mrows, List.length_append, mrow_len, List.length_cons]
      omega
theorem pr_sok (ps : List (Int × Int)) : sokAll (ps.map pr2) = true := sokAll_iff.mpr fun x hx => by
  obtain ⟨p, _, rfl⟩ := List.mem_map.mp hx
  simp [pr2, MV.sok, sokAll]
end Lw
namespace Lw
open PySem PySem.Spec PyProof.Rows L2 Mini PySem.W
theorem ix_tup {xs : List MV} {i : Int} {h : MHp} {Q : MQ} : ixM (.tup xs) (.int i) h Q ↔ ∃ x, atI xs i = some x ∧ Q x h := Iff.rfl
theorem ix_wv0 {w : T5} {h : MHp} {Q : MQ} : ixM (wv w) (.int 0) h Q ↔ Q (pr2 (j1 w)) h := by
  show (∃ x, atI [_, _, _] 0 = some x ∧ Q x h) ↔ _
  simp only [atI0, Option.some.injEq, exists_eq_left']
  rfl
theorem ix_wv1 {w : T5} {h : MHp} {Q : MQ} : ixM (wv w) (.int 1) h Q ↔ Q (pr2 (j2 w)) h := by
  show (∃ x, atI [_, _, _] 1 = some x ∧ Q x h) ↔ _
  simp only [atI1, Option.some.injEq, exists_eq_left']
  rfl
theorem ix_wv2 {w : T5} {h : MHp} {Q : MQ} : ixM (wv w) (.int 2) h Q ↔ Q (.int (dst w)) h := by
  show (∃ x, atI [_, _, _] 2 = some x ∧ Q x h) ↔ _
  simp only [atI2, Option.some.injEq, exists_eq_left']
  rfl
theorem ix_pr0 {j : J2} {h : MHp} {Q : MQ} : ixM (pr2 j) (.int 0) h Q ↔ Q (.int j.1) h := by
  show (∃ x, atI [_, _] 0 = some x ∧ Q x h) ↔ _
  simp only [atI0, Option.some.injEq, exists_eq_left']
theorem pr_sok1 (j : J2) : (pr2 j).sok = true := rfl
theorem pr_ok1 (j : J2) : (pr2 j).ok = true := rfl
theorem pr_eqv (i j : J2) : (pr2 i).eqv (pr2 j) = decide (i = j) := by
  obtain ⟨a, b⟩ := i
  obtain ⟨c, d⟩ := j
  show (a == c && (b == d && true)) = _
  rw [Bool.and_true, Bool.eq_iff_iff]
  simp
theorem wv_ok1 (w : T5) : (wv w).ok = true := rfl
theorem eq_pr {i j : J2} {h : MHp} {Q : MQ} (q : Q (.bl (decide (i = j))) h) : eqM (pr2 i) (pr2 j) h Q := by
  refine .inr ⟨pr_ok1 i, pr_ok1 j, ?_⟩
  show Q (.bl ((pr2 i).eqv (pr2 j))) h
  rw [pr_eqv]; exact q
theorem any_typed {α : Type} [BEq α] [LawfulBEq α] {ea : α → MV} (he : ∀ a b : α, (ea a).eqv (ea b) = true ↔ a = b) (x : α) : ∀ xs : List α, ((xs.map ea).any fun z => z.eqv (ea x)) = decide (x ∈ xs)
  | [] => by simp
  | a :: xs => by
    rw [List.map_cons, List.any_cons, any_typed he x xs, Bool.eq_iff_iff]
    simp only [Bool.or_eq_true, decide_eq_true_eq, List.mem_cons, he]
    exact ⟨fun h => h.elim (fun e => .inl e.symm) .inr, fun h => h.elim (fun e => .inl e.symm) .inr⟩
theorem pr_depAll : ∀ ps : List J2, depAll (ps.map pr2) ≤ 1
  | [] => by simp [depAll]
  | p :: ps => by
    have := pr_depAll ps
    have e : (pr2 p).dep = 1 := by simp [pr2, MV.dep, depAll]
    simp only [List.map_cons, depAll]
    omega
theorem in_pr {j : J2} {xs : List J2} {u : MV} {h : MHp} {Q : MQ} (hu : seqOf h u = some (xs.map pr2)) (q : Q (.bl (decide (j ∈ xs))) h) : inSeqM (pr2 j) u h Q := by
  refine ⟨_, hu, pr_sok xs, by have := pr_depAll xs; omega, pr_ok1 j, ?_⟩
  show Q (.bl ((xs.map pr2).any fun z => z.eqv (pr2 j))) h
  rw [any_typed fun i j => by rw [pr_eqv, decide_eq_true_eq]]; exact q
theorem notIn_pr {j : J2} {xs : List J2} {u : MV} {h : MHp} {Q : MQ} (hu : seqOf h u = some (xs.map pr2)) (q : Q (.bl (!decide (j ∈ xs))) h) : notInSeqM (pr2 j) u h Q := by
  refine ⟨_, hu, pr_sok xs, by have := pr_depAll xs; omega, pr_ok1 j, ?_⟩
  show Q (.bl (!(xs.map pr2).any fun z => z.eqv (pr2 j))) h
  rw [any_typed fun i j => by rw [pr_eqv, decide_eq_true_eq]]; exact q
theorem in_wv {w : T5} {xs : List T5} {u : MV} {h : MHp} {Q : MQ} (hu : seqOf h u = some (xs.map wv)) (q : Q (.bl (decide (w ∈ xs))) h) : inSeqM (wv w) u h Q := by
  refine ⟨_, hu, wv_sok_all xs, by have := wv_depAll xs; omega, wv_ok1 w, ?_⟩
  show Q (.bl ((xs.map wv).any fun z => z.eqv (wv w))) h
  rw [any_typed fun i j => by rw [wv_eqv, decide_eq_true_eq]]; exact q
theorem notIn_wv {w : T5} {xs : List T5} {u : MV} {h : MHp} {Q : MQ} (hu : seqOf h u = some (xs.map wv)) (q : Q (.bl (!decide (w ∈ xs))) h) : notInSeqM (wv w) u h Q := by
  refine ⟨_, hu, wv_sok_all xs, by have := wv_depAll xs; omega, wv_ok1 w, ?_⟩
  show Q (.bl (!(xs.map wv).any fun z => z.eqv (wv w))) h
  rw [any_typed fun i j => by rw [wv_eqv, decide_eq_true_eq]]; exact q
theorem mem_ties {ss : List Int} {es : List T5} {t : T5} : t ∈ tiesOf ss es ↔ t ∈ es ∨ t ∈ rows 0 ss := by
  unfold tiesOf srt
  rw [(List.mergeSort_perm _ _).mem_iff, List.mem_append]
def zt (ss : List Int) (es : List T5) : List T5 := (tiesOf ss es).filter fun t => decide (dst t = 0)
theorem mem_zt {ss : List Int} {es : List T5} {t : T5} : t ∈ zt ss es ↔ (t ∈ es ∨ t ∈ rows 0 ss) ∧ dst t = 0 := by
  unfold zt
  rw [List.mem_filter, mem_ties, decide_eq_true_eq]
theorem zt_len {ss : List Int} {es : List T5} (hl : ss.length ≤ 4) (he : es.length ≤ 12) (hs : ∀ s ∈ ss, 1 ≤ s ∧ s ≤ 4) : (zt ss es).length ≤ 28 :=
  Nat.le_trans (List.length_filter_le _ _) (tiesOf_len hl he hs)
theorem zt_job {ss : List Int} {es : List T5} (hs : SOk ss) (hw : ∀ w ∈ es, WOk ss w) {t : T5} (h : t ∈ zt ss es) : JOk ss (j1 t) ∧ JOk ss (j2 t) := by
  obtain ⟨h1, h0⟩ := mem_zt.mp h
  rcases h1 with h1 | h1
  · exact ⟨(hw t h1).a, (hw t h1).b⟩
  · rcases mem_rows0 h1 with ⟨a, b, c⟩ | z
    · refine ⟨a, ⟨by rw [b]; exact a.1, ?_⟩⟩
      rcases c with ⟨c1, c2, _⟩ | ⟨_, _, c3⟩
      · have a2 := a.2
        simp only [j1] at a2
        rw [c2, b]; omega
      · rw [h0] at c3; cases c3
    · exfalso
      obtain ⟨i, s, h1, h2⟩ := mem_rows.mp h1
      have := hs.s s (List.mem_of_getElem? h1)
      have es := sz_at h1
      rw [Nat.zero_add] at h2
      rcases mem_row.mp h2 with ⟨p, hp, rfl⟩ | rfl <;> (simp only [] at z; rw [es] at z; omega)
def miss (ms found : List J2) : Nat := (ms.filter fun j => !decide (j ∈ found)).length
theorem miss_le {ms found new : List J2} : miss ms (found ++ new) ≤ miss ms found := by
  unfold miss
  induction ms with
  | nil => simp
  | cons m ms ih =>
    rw [List.filter_cons, List.filter_cons]
    by_cases h : m ∈ found
    · rw [if_neg (by simp [h]), if_neg (by simp [h])]; exact ih
    · by_cases h2 : m ∈ new
      · rw [if_neg (by simp [h2]), if_pos (by simp [h]), List.length_cons]; omega
      · rw [if_pos (by simp [h, h2]), if_pos (by simp [h]), List.length_cons, List.length_cons]; omega
theorem miss_lt {ms found new : List J2} {x : J2} (hx : x ∈ ms) (h1 : x ∉ found) (h2 : x ∈ new) : miss ms (found ++ new) < miss ms found := by
  unfold miss
  induction ms with
  | nil => cases hx
  | cons m ms ih =>
    have le := miss_le (ms := ms) (found := found) (new := new)
    unfold miss at le
    rw [List.filter_cons, List.filter_cons]
    rcases List.mem_cons.mp hx with rfl | hx
    · rw [if_neg (by simp [h2]), if_pos (by simp [h1]), List.length_cons]; omega
    · have := ih hx
      by_cases h : m ∈ found
      · rw [if_neg (by simp [h]), if_neg (by simp [h])]; exact this
      · by_cases h3 : m ∈ new
        · rw [if_neg (by simp [h3]), if_pos (by simp [h]), List.length_cons]; omega
        · rw [if_pos (by simp [h, h3]), if_pos (by simp [h]), List.length_cons, List.length_cons]; omega
end Lw
namespace Lw
open PySem PySem.Spec PyProof.Rows L2 Mini PySem.W
theorem pr_ok (ps : List (Int × Int)) : (MV.fl (ps.map pr2)).ok = true := by
  have e1 : (MV.fl (ps.map pr2)).sok = true := by simp only [MV.sok]; exact pr_sok ps
  have e2 : depAll (ps.map pr2) ≤ 1 := by
    induction ps with
    | nil => simp [depAll]
    | cons p ps ih =>
      have := ih (by simp only [MV.sok]; exact pr_sok ps)
      simp only [List.map_cons, depAll]
      have e : (pr2 p).dep = 1 := by simp [pr2, MV.dep, depAll]
      omega
  have e3 : (MV.fl (ps.map pr2)).dep ≤ 60 := by simp only [MV.dep]; omega
  unfold MV.ok
  rw [e1, decide_eq_true e3] <;> rfl
theorem oneT {α : Type} {ea : α → MV} {cs : List Int} {a v : Int} {t : MHp} {xs : List α} (ht : TOk t) (ha : 0 ≤ a) (ha2 : a < 2 ^ 30) (hx : ∀ x, (ea x).sok = true) (h0 : xs ≠ []) (hl : xs.length < 2 ^ 30) {Q E : MQ} (k : ∀ x a' v', x ∈ xs → a ≤ a' → a' ≤ a + 1 → Q (ea x) (pen cs a' v' t)) :
    f__law_one [.ref 1, .fl (xs.map ea)] (pen cs a v t) Q E :=
  one_ok ht ha ha2 (fun x h => by obtain ⟨y, _, rfl⟩ := List.mem_map.mp h; exact hx y) (by simpa using h0) (by rw [List.length_map]; exact hl) fun x a' v' h h1 h2 => by
    obtain ⟨y, hy, rfl⟩ := List.mem_map.mp h
    exact k y a' v' hy h1 h2
theorem oneI {cs : List Int} {a v : Int} {t : MHp} (xs : List Int) (ht : TOk t) (ha : 0 ≤ a) (ha2 : a < 2 ^ 30) (h0 : xs ≠ []) (hl : xs.length < 2 ^ 30) {Q E : MQ} (k : ∀ x a' v', x ∈ xs → a ≤ a' → a' ≤ a + 1 → Q (.int x) (pen cs a' v' t)) :
    f__law_one [.ref 1, .fl (xs.map .int)] (pen cs a v t) Q E := oneT (ea := MV.int) ht ha ha2 (fun _ => rfl) h0 hl k
theorem int_bounds {p : Int × Int} {ss : List Int} (hs : SOk ss) (h : JOk ss p) : (0 ≤ p.1 ∧ p.1 ≤ 1000) ∧ (0 ≤ p.2 ∧ p.2 ≤ 1000) := by
  have := hs.sz h.1.1 h.1.2
  have h2 := h.1
  have h3 := h.2
  have h4 := hs.len
  omega
theorem WOk.small {ss : List Int} (hs : SOk ss) {w : T5} (h : WOk ss w) : small w := by
  obtain ⟨q1, p1, q2, p2, d⟩ := w
  have a := int_bounds hs h.a
  have b := int_bounds hs h.b
  have c := h.d
  exact small_of a.1 a.2 b.1 b.2 ⟨c.1, by have := c.2; simp only [dst] at this; omega⟩
structure DInv (ss : List Int) (ws : List T5) : Prop where
  w : ∀ w ∈ ws, WOk ss w
  nd : ws.Nodup
  snd : Sound (ws ++ rows 0 ss)
structure POk (ss : List Int) (es : List T5) : Prop where
  s : SOk ss
  w : ∀ w ∈ es, WOk ss w
  len : es.length ≤ 12
  asc : es = asc es
  snd : Sound (es ++ rows 0 ss)
theorem eraseDups_nd : ∀ {es : List T5}, es.Nodup → es.eraseDups = es
  | [], _ => rfl
  | a :: es, h => by
    rw [List.nodup_cons] at h
    rw [List.eraseDups_cons]
    have e : es.filter (fun b => !b == a) = es := List.filter_eq_self.mpr fun b hb => by
      have : b ≠ a := fun e => h.1 (e ▸ hb)
      simpa using this
    rw [e, eraseDups_nd h.2]
theorem asc_srt {ws : List T5} (h : ws.Nodup) : asc (srt ws) = srt ws := by
  have p : (srt ws).Perm ws := List.mergeSort_perm _ _
  unfold asc
  rw [eraseDups_nd (p.nodup_iff.mpr h), srt_perm p]
theorem DInv.plan {ss : List Int} {ws : List T5} (hs : SOk ss) (I : DInv ss ws) (hl : ws.length ≤ 12) : POk ss (srt ws) := by
  have p : (srt ws).Perm ws := List.mergeSort_perm _ _
  exact ⟨hs, fun w hw => I.w w (p.mem_iff.mp hw), by rw [p.length_eq]; exact hl, (asc_srt I.nd).symm, I.snd.mono fun t ht => (List.mem_append.mp ht).elim (fun h => List.mem_append_left _ (p.mem_iff.mp h)) fun h => List.mem_append_right _ h⟩
theorem JOk.memberB {ss : List Int} {j : J2} (h : JOk ss j) : memberB ss (pr2 j) = true := by
  obtain ⟨⟨h0, h1⟩, h2, h3⟩ := h
  show ((decide (0 ≤ j.1) && decide (j.1 ≤ (ss.length : Int) - 1)) && wholeB (.int j.2) 0 (ss.getD j.1.toNat 0 - 1)) = true
  have e1 : decide (0 ≤ j.1) = true := decide_eq_true h0
  have e2 : decide (j.1 ≤ (ss.length : Int) - 1) = true := decide_eq_true (by omega)
  have e3 : wholeB (.int j.2) 0 (ss.getD j.1.toNat 0 - 1) = true := by
    show (decide (0 ≤ j.2) && decide (j.2 ≤ sz ss j.1 - 1)) = true
    rw [decide_eq_true h2, decide_eq_true (by omega)]
    rfl
  rw [e1, e2, e3]
  rfl
theorem WOk.waitB {ss : List Int} {w : T5} (h : WOk ss w) : waitB ss (wv w) = true := by
  show (Lw.memberB ss (pr2 (j1 w)) && (Lw.memberB ss (pr2 (j2 w)) && ((!(w.1 == w.2.2.1)) && wholeB (.int (dst w)) 0 3))) = true
  rw [h.a.memberB, h.b.memberB]
  have e1 : (w.1 == w.2.2.1) = false := by simpa using h.ne
  have e2 : wholeB (.int (dst w)) 0 3 = true := by
    show (decide (0 ≤ dst w) && decide (dst w ≤ 3)) = true
    rw [decide_eq_true h.d.1, decide_eq_true h.d.2]
    rfl
  rw [e1, e2]
  rfl
theorem SOk.sizesB {ss : List Int} (h : SOk ss) : sizesB (.tup (ss.map .int)) = true := by
  have h0 : 1 ≤ ss.length := List.length_pos_iff.mpr h.ne
  show ((decide (1 ≤ (ss.map MV.int).length) && decide ((ss.map MV.int).length ≤ 4)) && (ss.map MV.int).all fun x => wholeB x 1 4) = true
  rw [List.length_map, decide_eq_true h0, decide_eq_true h.len]
  simp only [Bool.true_and, List.all_map, List.all_eq_true]
  intro s hs
  have := h.s s hs
  show (decide (1 ≤ s) && decide (s ≤ 4)) = true
  rw [decide_eq_true this.1, decide_eq_true this.2]
  rfl
theorem POk.planB {ss : List Int} {es : List T5} (h : POk ss es) : planB (plan ss es) = true := by
  rw [planB_of, h.s.sizesB, List.length_map, decide_eq_true h.len]
  have e1 : (es.map wv).all (Lw.waitB ss) = true := by
    rw [List.all_map, List.all_eq_true]
    exact fun w hw => (h.w w hw).waitB
  rw [e1, @decide_eq_true _ (Classical.propDecidable _) (ascB_iff.mpr h.asc)]
  rfl
theorem plan_sok (ss : List Int) (es : List T5) : (plan ss es).sok = true := by
  simp [MV.sok, sokAll, sok_ints, wv_sok_all]
end Lw
namespace Lw
open PySem PySem.Spec PyProof.Rows L2 Mini PySem.W
theorem mrows_flat : ∀ (ss : List Int) (k : Nat), (ss.zipIdx k).flatMap (fun p : Int × Nat => (irng 0 p.1).map fun i => ((p.2 : Int), i)) = mrows k ss
  | [], _ => rfl
  | s :: ss, k => by
    rw [List.zipIdx_cons, List.flatMap_cons, mrows_flat ss (k + 1), mrows]
    congr 1
    unfold irng mrow
    rw [List.map_map, Int.sub_zero]
    refine List.map_congr_left fun i _ => ?_
    show ((k : Int), 0 + (i : Int)) = ((k : Int), (i : Int))
    rw [Int.zero_add]
theorem list_jobs_ok {ss : List Int} {es : MV} (hs : SOk ss) {h : MHp} (hh : Hh h) {Q E : MQ} (k : Q (.fl ((mrows 0 ss).map pr2)) h) : f_list_jobs [.tup [.tup (ss.map .int), es]] h Q E := by
  simp only [f_list_jobs, b_list_jobs, getK, setK, Option.isSome_some, eqM_int, neM_int, kit_ii, kit_bi, kit_ni, kit_si, kit_ti, kit_li, kit_ib, kit_bb, kit_tt, kit_it, kit_bt, kit_nt, kit_st, kit_lt, atI0, atI1, atI2, ixN30, ixN31, ixN32, mFn, startM, mSeq, mIf, mAsg, mRet, mRetN, mDrop, mNext, gN, gT, gsCons, gsNil, gIx, mVar, mInt, mBl, mNon, mStr, mC, mOp1, mOp2, int2, plusM, addM, mulM2, negM, isM, isNotM, isNotM2, isM2, mAug, rg1, rg2, mLstRg, mLstRgC, mTupRg, tV, tNo, tAn, Mini.tOr, mAnd, mOr, mNot, Mini.notM, Bool.not_false, Bool.not_true, Bool.false_eq_true, if_false, if_true, reduceIte, mIfE, aNil, aCons, mTup, mLst, mLstC, mSl, slM, pNo, pAt, mB, mCall, lenM, listM, listMC, tupleM, intM, boolM, seqOf, lstOf, Mini.cellOf, mPar, mPar3, mLc, mLcC, mFor, iSeq, Mini.iRng1, Mini.iRng2, Mini.iEnum, Mini.iZip, mIsi, isiM, tyM, mMt, mMt0, appendM, extendM, popM, catF, catF.lstM, mChain, tAll, wipeM, mdK, ixT0, ixT1, ixT2, ixF0, ixF1, ixF2, enumL_map, decide_true, decide_false, isN_non, isN_tup, isN_fl, isN_ref, isN_int, isN_bl, isN_str, getK1, getK2, setK1, setK2, rng_irng, mLc2, Mini.iTup, Mini.tAll, Prod.mk.injEq, and_assoc, List.map_cons, List.map_nil, List.length_cons, List.length_nil, List.replicate, List.cons_append, List.nil_append, List.getElem?_cons_zero, List.getElem?_cons_succ, List.set_cons_zero, List.set_cons_succ, Option.some.injEq, exists_eq_left', exists_eq_left, true_and, and_true, List.cons.injEq, MV.int.injEq, MV.bl.injEq, MV.tup.injEq, MV.fl.injEq, MV.str.injEq, MV.ref.injEq, Option.bind_some, exists_and_left, exists_const, Nat.sub_self, Nat.reduceSub, Nat.reduceAdd, List.append_nil, List.nil_append, List.length_map, Nat.add_zero, Nat.zero_add]
  have ml := (mrows_bd ss 0 hs.s (by have := hs.len; omega)).2
  have sl := hs.len
  refine comp2_bind (ea := enumT MV.int) (eb := pr2) (fun p : Int × Nat => (irng 0 p.1).map fun i => ((p.2 : Int), i)) trivial ss.zipIdx [] (by rw [mrows_flat, List.length_nil]; omega) (fun p hp acc K hl hk => ?_) ?_
  · have hs1 := hs.s p.1 (List.fst_mem_of_mem_zipIdx hp)
    simp only [enumT, getK, setK, Option.isSome_some, eqM_int, neM_int, kit_ii, kit_bi, kit_ni, kit_si, kit_ti, kit_li, kit_ib, kit_bb, kit_tt, kit_it, kit_bt, kit_nt, kit_st, kit_lt, atI0, atI1, atI2, ixN30, ixN31, ixN32, mFn, startM, mSeq, mIf, mAsg, mRet, mRetN, mDrop, mNext, gN, gT, gsCons, gsNil, gIx, mVar, mInt, mBl, mNon, mStr, mC, mOp1, mOp2, int2, plusM, addM, mulM2, negM, isM, isNotM, isNotM2, isM2, mAug, rg1, rg2, mLstRg, mLstRgC, mTupRg, tV, tNo, tAn, Mini.tOr, mAnd, mOr, mNot, Mini.notM, Bool.not_false, Bool.not_true, Bool.false_eq_true, if_false, if_true, reduceIte, mIfE, aNil, aCons, mTup, mLst, mLstC, mSl, slM, pNo, pAt, mB, mCall, lenM, listM, listMC, tupleM, intM, boolM, seqOf, lstOf, Mini.cellOf, mPar, mPar3, mLc, mLcC, mFor, iSeq, Mini.iRng1, Mini.iRng2, Mini.iEnum, Mini.iZip, mIsi, isiM, tyM, mMt, mMt0, appendM, extendM, popM, catF, catF.lstM, mChain, tAll, wipeM, mdK, ixT0, ixT1, ixT2, ixF0, ixF1, ixF2, enumL_map, decide_true, decide_false, isN_non, isN_tup, isN_fl, isN_ref, isN_int, isN_bl, isN_str, getK1, getK2, setK1, setK2, rng_irng, mLc2, Mini.iTup, Mini.tAll, Prod.mk.injEq, and_assoc, List.map_cons, List.map_nil, List.length_cons, List.length_nil, List.replicate, List.cons_append, List.nil_append, List.getElem?_cons_zero, List.getElem?_cons_succ, List.set_cons_zero, List.set_cons_succ, Option.some.injEq, exists_eq_left', exists_eq_left, true_and, and_true, List.cons.injEq, MV.int.injEq, MV.bl.injEq, MV.tup.injEq, MV.fl.injEq, MV.str.injEq, MV.ref.injEq, Option.bind_some, exists_and_left, exists_const, Nat.sub_self, Nat.reduceSub, Nat.reduceAdd, List.append_nil, List.nil_append, List.length_map, Nat.add_zero, Nat.zero_add]
    refine ⟨by omega, by omega, ?_⟩
    refine comp_fmA (ea := MV.int) (eb := pr2) (fun i => some ((p.2 : Int), i)) trivial (irng 0 p.1) acc (by simpa using hl) (fun i hi acc2 K2 h1 h2 => ?_) ?_
    · try simp only [getK, setK, Option.isSome_some, eqM_int, neM_int, kit_ii, kit_bi, kit_ni, kit_si, kit_ti, kit_li, kit_ib, kit_bb, kit_tt, kit_it, kit_bt, kit_nt, kit_st, kit_lt, atI0, atI1, atI2, ixN30, ixN31, ixN32, mFn, startM, mSeq, mIf, mAsg, mRet, mRetN, mDrop, mNext, gN, gT, gsCons, gsNil, gIx, mVar, mInt, mBl, mNon, mStr, mC, mOp1, mOp2, int2, plusM, addM, mulM2, negM, isM, isNotM, isNotM2, isM2, mAug, rg1, rg2, mLstRg, mLstRgC, mTupRg, tV, tNo, tAn, Mini.tOr, mAnd, mOr, mNot, Mini.notM, Bool.not_false, Bool.not_true, Bool.false_eq_true, if_false, if_true, reduceIte, mIfE, aNil, aCons, mTup, mLst, mLstC, mSl, slM, pNo, pAt, mB, mCall, lenM, listM, listMC, tupleM, intM, boolM, seqOf, lstOf, Mini.cellOf, mPar, mPar3, mLc, mLcC, mFor, iSeq, Mini.iRng1, Mini.iRng2, Mini.iEnum, Mini.iZip, mIsi, isiM, tyM, mMt, mMt0, appendM, extendM, popM, catF, catF.lstM, mChain, tAll, wipeM, mdK, ixT0, ixT1, ixT2, ixF0, ixF1, ixF2, enumL_map, decide_true, decide_false, isN_non, isN_tup, isN_fl, isN_ref, isN_int, isN_bl, isN_str, getK1, getK2, setK1, setK2, rng_irng, mLc2, Mini.iTup, Mini.tAll, Prod.mk.injEq, and_assoc, List.map_cons, List.map_nil, List.length_cons, List.length_nil, List.replicate, List.cons_append, List.nil_append, List.getElem?_cons_zero, List.getElem?_cons_succ, List.set_cons_zero, List.set_cons_succ, Option.some.injEq, exists_eq_left', exists_eq_left, true_and, and_true, List.cons.injEq, MV.int.injEq, MV.bl.injEq, MV.tup.injEq, MV.fl.injEq, MV.str.injEq, MV.ref.injEq, Option.bind_some, exists_and_left, exists_const, Nat.sub_self, Nat.reduceSub, Nat.reduceAdd, List.append_nil, List.nil_append, List.length_map, Nat.add_zero, Nat.zero_add]
      exact ⟨smallLine (by decide), h1, h2⟩
    · have e2 : (irng 0 p.1).filterMap (fun i => some (((p.2 : Nat) : Int), i)) = (irng 0 p.1).map fun i => ((p.2 : Int), i) := congrFun List.filterMap_eq_map _
      rw [e2]
      exact hk
  · rw [List.nil_append, mrows_flat]
    exact fin_sok hh (by simp only [MV.sok]; exact pr_sok _) k
theorem eqFF {h : MHp} {Q : MQ} (k : Q (.bl true) h) : eqM (.fl []) (.fl []) h Q := .inr ⟨show (MV.fl []).ok = true from by decide +kernel, show (MV.fl []).ok = true from by decide +kernel, k⟩
def zwB : MS := (mSeq (mAsg (mLc (iSeq (mVar 2)) (gN 8) (tV (mB anyM (aCons (mLc (iSeq (mVar 1)) (gN 7) tAll (mAnd (mOp2 eqM (mOp2 ixM (mVar 7) (mInt 0)) (mVar 8)) (mOp2 inSeqM (mOp2 ixM (mVar 7) (mInt 1)) (mVar 2))) [7]) aNil))) (mVar 8) [8]) (gN 4))
    (mAsg (mTup (aCons (mOp2 ltM (mB lenM (aCons (mVar 4) aNil)) (mB lenM (aCons (mVar 2) aNil))) (aCons (mVar 4) aNil))) (gT (gsCons (gN 3) (gsCons (gN 2) gsNil)) 2)))
def zrB : MS := (mSeq (mAsg (mTup (aCons (mLstC (aCons (mOp2 ixM (mVar 2) (mInt 0)) aNil)) (aCons (mLstC aNil) aNil))) (gT (gsCons (gN 5) (gsCons (gN 6) gsNil)) 2))
    (mSeq (mWhile (tV (mOp2 ltM (mB lenM (aCons (mVar 6) aNil)) (mB lenM (aCons (mVar 5) aNil)))) (mSeq (mAsg (mOp2 ixM (mLc (iSeq (mVar 1)) (gN 9) (tAn (tV (mOp2 eqM (mOp2 ixM (mVar 9) (mInt 0)) (mOp2 ixM (mVar 5) (mOp1 negM (mInt 1))))) (tV (mOp2 inSeqM (mOp2 ixM (mVar 9) (mInt 1)) (mVar 2)))) (mVar 9) [9]) (mInt 0)) (gN 7))
    (mSeq (mDrop (mMt appendM (mVar 6) (aCons (mVar 7) aNil)))
    (mIf (tV (mOp2 notInSeqM (mOp2 ixM (mVar 7) (mInt 1)) (mVar 5))) (mDrop (mMt appendM (mVar 5) (aCons (mOp2 ixM (mVar 7) (mInt 1)) aNil))) mNext))))
    (mRet (mSl slM (mVar 6) (pAt (mMt indexM (mVar 5) (aCons (mOp2 ixM (mOp2 ixM (mVar 6) (mOp1 negM (mInt 1))) (mInt 1)) aNil))) pNo))))
theorem zero_body : b_find_zero =
    (mSeq (mAsg (mLc (iSeq (mCall f_find_links (aCons (mVar 0) aNil))) (gN 7) (tV (mOp2 eqM (mOp2 ixM (mVar 7) (mInt 2)) (mInt 0))) (mVar 7) [7]) (gN 1))
    (mSeq (mAsg (mCall f_list_jobs (aCons (mVar 0) aNil)) (gN 2))
    (mSeq (mAsg (mBl true) (gN 3))
    (mSeq (mWhile (tV (mVar 3)) zwB)
    (mSeq (mIf (tV (mOp2 eqM (mVar 2) (mLst aNil))) (mRet mNon) mNext)
    zrB))))) := rfl
theorem bls_map {α : Type} (p : α → Bool) : ∀ xs : List α, blsOf (xs.map fun x => MV.bl (p x)) = some (xs.map p)
  | [] => rfl
  | x :: xs => by
    rw [List.map_cons, List.map_cons]
    show ((blsOf (xs.map fun x => MV.bl (p x))).map (p x :: ·)) = _
    rw [bls_map p xs]
    rfl
theorem any_map {α : Type} {p : α → Bool} {xs : List α} {h : MHp} {Q : MQ} (k : Q (.bl (xs.any p)) h) : anyM [.fl (xs.map fun x => MV.bl (p x))] h Q := by
  refine ⟨_, _, _, rfl, rfl, bls_map p xs, ?_⟩
  rw [List.any_map]
  exact k
theorem all_map {α : Type} {p : α → Bool} {xs : List α} {h : MHp} {Q : MQ} (k : Q (.bl (xs.all p)) h) : allM [.fl (xs.map fun x => MV.bl (p x))] h Q := by
  refine ⟨_, _, _, rfl, rfl, bls_map p xs, ?_⟩
  rw [List.all_map]
  exact k
theorem zero_loop {ss : List Int} {es : List T5} (hs : SOk ss) (hw : ∀ w ∈ es, WOk ss w) (he : es.length ≤ 12) {h : MHp} {s0 : Option MV} {x4 x5 x6 x7 x8 x9 : Option MV} {D : MD}
    (k : ∀ (left : List J2) x3 x4 x5 x6 x7 x8 x9, (∀ j ∈ left, JOk ss j) → (∀ j ∈ left, ∃ t ∈ zt ss es, j1 t = j ∧ j2 t ∈ left) → (∀ S : List J2, (∀ j ∈ S, j ∈ mrows 0 ss) → (∀ j ∈ S, ∃ t ∈ zt ss es, j1 t = j ∧ j2 t ∈ S) → ∀ j ∈ S, j ∈ left) → D.nx [s0, some (.fl ((zt ss es).map wv)), some (.fl (left.map pr2)), x3, x4, x5, x6, x7, x8, x9] h) :
    mWhile (tV (mVar 3)) zwB [s0, some (.fl ((zt ss es).map wv)), some (.fl ((mrows 0 ss).map pr2)), some (.bl true), x4, x5, x6, x7, x8, x9] h D := by
  have ml := (mrows_bd ss 0 hs.s (by have := hs.len; omega)).2
  have sl := hs.len
  have zl := zt_len (es := es) hs.len he hs.s
  refine while_ind (fun n s h' => ∃ (left : List J2) (c : Bool) (x4 x5 x6 x7 x8 x9 : Option MV), s = [s0, some (.fl ((zt ss es).map wv)), some (.fl (left.map pr2)), some (.bl c), x4, x5, x6, x7, x8, x9] ∧ h' = h ∧ left.length ≤ 16 ∧ (∀ j ∈ left, JOk ss j) ∧ (c = false → ∀ j ∈ left, ∃ t ∈ zt ss es, j1 t = j ∧ j2 t ∈ left) ∧ (∀ S : List J2, (∀ j ∈ S, j ∈ mrows 0 ss) → (∀ j ∈ S, ∃ t ∈ zt ss es, j1 t = j ∧ j2 t ∈ S) → ∀ j ∈ S, j ∈ left) ∧ n = 2 * left.length + (if c = true then 1 else 0))
    (fun n s h' K ⟨left, c, x4, x5, x6, x7, x8, x9, e1, e2, h1, h2, h3, h4, en⟩ hK => ?_) (n := 2 * (mrows 0 ss).length + 1) ⟨mrows 0 ss, true, x4, x5, x6, x7, x8, x9, rfl, rfl, by omega, fun j hj => mem_members.mp hj, (fun e => nomatch e), fun S hS _ j hj => hS j hj, rfl⟩
  subst e1 e2
  cases c with
  | false =>
    try simp only [getK, setK, Option.isSome_some, eqM_int, neM_int, kit_ii, kit_bi, kit_ni, kit_si, kit_ti, kit_li, kit_ib, kit_bb, kit_tt, kit_it, kit_bt, kit_nt, kit_st, kit_lt, atI0, atI1, atI2, ixN30, ixN31, ixN32, mFn, startM, mSeq, mIf, mAsg, mRet, mRetN, mDrop, mNext, gN, gT, gsCons, gsNil, gIx, mVar, mInt, mBl, mNon, mStr, mC, mOp1, mOp2, int2, plusM, addM, mulM2, negM, isM, isNotM, isNotM2, isM2, mAug, rg1, rg2, mLstRg, mLstRgC, mTupRg, tV, tNo, tAn, Mini.tOr, mAnd, mOr, mNot, Mini.notM, Bool.not_false, Bool.not_true, Bool.false_eq_true, if_false, if_true, reduceIte, mIfE, aNil, aCons, mTup, mLst, mLstC, mSl, slM, pNo, pAt, mB, mCall, lenM, listM, listMC, tupleM, intM, boolM, seqOf, lstOf, Mini.cellOf, mPar, mPar3, mLc, mLcC, mFor, iSeq, Mini.iRng1, Mini.iRng2, Mini.iEnum, Mini.iZip, mIsi, isiM, tyM, mMt, mMt0, appendM, extendM, popM, catF, catF.lstM, mChain, tAll, wipeM, mdK, ixT0, ixT1, ixT2, ixF0, ixF1, ixF2, enumL_map, decide_true, decide_false, isN_non, isN_tup, isN_fl, isN_ref, isN_int, isN_bl, isN_str, getK1, getK2, setK1, setK2, rng_irng, mLc2, Mini.iTup, Mini.tAll, Prod.mk.injEq, and_assoc, List.map_cons, List.map_nil, List.length_cons, List.length_nil, List.replicate, List.cons_append, List.nil_append, List.getElem?_cons_zero, List.getElem?_cons_succ, List.set_cons_zero, List.set_cons_succ, Option.some.injEq, exists_eq_left', exists_eq_left, true_and, and_true, List.cons.injEq, MV.int.injEq, MV.bl.injEq, MV.tup.injEq, MV.fl.injEq, MV.str.injEq, MV.ref.injEq, Option.bind_some, exists_and_left, exists_const, Nat.sub_self, Nat.reduceSub, Nat.reduceAdd, List.append_nil, List.nil_append, List.length_map, Nat.add_zero, Nat.zero_add]
    exact k left _ _ _ _ _ _ _ h2 (h3 rfl) h4
  | true =>
    simp only [zwB, getK, setK, Option.isSome_some, eqM_int, neM_int, kit_ii, kit_bi, kit_ni, kit_si, kit_ti, kit_li, kit_ib, kit_bb, kit_tt, kit_it, kit_bt, kit_nt, kit_st, kit_lt, atI0, atI1, atI2, ixN30, ixN31, ixN32, mFn, startM, mSeq, mIf, mAsg, mRet, mRetN, mDrop, mNext, gN, gT, gsCons, gsNil, gIx, mVar, mInt, mBl, mNon, mStr, mC, mOp1, mOp2, int2, plusM, addM, mulM2, negM, isM, isNotM, isNotM2, isM2, mAug, rg1, rg2, mLstRg, mLstRgC, mTupRg, tV, tNo, tAn, Mini.tOr, mAnd, mOr, mNot, Mini.notM, Bool.not_false, Bool.not_true, Bool.false_eq_true, if_false, if_true, reduceIte, mIfE, aNil, aCons, mTup, mLst, mLstC, mSl, slM, pNo, pAt, mB, mCall, lenM, listM, listMC, tupleM, intM, boolM, seqOf, lstOf, Mini.cellOf, mPar, mPar3, mLc, mLcC, mFor, iSeq, Mini.iRng1, Mini.iRng2, Mini.iEnum, Mini.iZip, mIsi, isiM, tyM, mMt, mMt0, appendM, extendM, popM, catF, catF.lstM, mChain, tAll, wipeM, mdK, ixT0, ixT1, ixT2, ixF0, ixF1, ixF2, enumL_map, decide_true, decide_false, isN_non, isN_tup, isN_fl, isN_ref, isN_int, isN_bl, isN_str, getK1, getK2, setK1, setK2, rng_irng, mLc2, Mini.iTup, Mini.tAll, Prod.mk.injEq, and_assoc, List.map_cons, List.map_nil, List.length_cons, List.length_nil, List.replicate, List.cons_append, List.nil_append, List.getElem?_cons_zero, List.getElem?_cons_succ, List.set_cons_zero, List.set_cons_succ, Option.some.injEq, exists_eq_left', exists_eq_left, true_and, and_true, List.cons.injEq, MV.int.injEq, MV.bl.injEq, MV.tup.injEq, MV.fl.injEq, MV.str.injEq, MV.ref.injEq, Option.bind_some, exists_and_left, exists_const, Nat.sub_self, Nat.reduceSub, Nat.reduceAdd, List.append_nil, List.nil_append, List.length_map, Nat.add_zero, Nat.zero_add]
    refine comp_filter (ea := pr2) (fun j => (zt ss es).any fun t => decide (j1 t = j) && decide (j2 t ∈ left)) trivial (by omega) (fun j hj acc K2 hl hk => ?_) ?_
    · try simp only [getK, setK, Option.isSome_some, eqM_int, neM_int, kit_ii, kit_bi, kit_ni, kit_si, kit_ti, kit_li, kit_ib, kit_bb, kit_tt, kit_it, kit_bt, kit_nt, kit_st, kit_lt, atI0, atI1, atI2, ixN30, ixN31, ixN32, mFn, startM, mSeq, mIf, mAsg, mRet, mRetN, mDrop, mNext, gN, gT, gsCons, gsNil, gIx, mVar, mInt, mBl, mNon, mStr, mC, mOp1, mOp2, int2, plusM, addM, mulM2, negM, isM, isNotM, isNotM2, isM2, mAug, rg1, rg2, mLstRg, mLstRgC, mTupRg, tV, tNo, tAn, Mini.tOr, mAnd, mOr, mNot, Mini.notM, Bool.not_false, Bool.not_true, Bool.false_eq_true, if_false, if_true, reduceIte, mIfE, aNil, aCons, mTup, mLst, mLstC, mSl, slM, pNo, pAt, mB, mCall, lenM, listM, listMC, tupleM, intM, boolM, seqOf, lstOf, Mini.cellOf, mPar, mPar3, mLc, mLcC, mFor, iSeq, Mini.iRng1, Mini.iRng2, Mini.iEnum, Mini.iZip, mIsi, isiM, tyM, mMt, mMt0, appendM, extendM, popM, catF, catF.lstM, mChain, tAll, wipeM, mdK, ixT0, ixT1, ixT2, ixF0, ixF1, ixF2, enumL_map, decide_true, decide_false, isN_non, isN_tup, isN_fl, isN_ref, isN_int, isN_bl, isN_str, getK1, getK2, setK1, setK2, rng_irng, mLc2, Mini.iTup, Mini.tAll, Prod.mk.injEq, and_assoc, List.map_cons, List.map_nil, List.length_cons, List.length_nil, List.replicate, List.cons_append, List.nil_append, List.getElem?_cons_zero, List.getElem?_cons_succ, List.set_cons_zero, List.set_cons_succ, Option.some.injEq, exists_eq_left', exists_eq_left, true_and, and_true, List.cons.injEq, MV.int.injEq, MV.bl.injEq, MV.tup.injEq, MV.fl.injEq, MV.str.injEq, MV.ref.injEq, Option.bind_some, exists_and_left, exists_const, Nat.sub_self, Nat.reduceSub, Nat.reduceAdd, List.append_nil, List.nil_append, List.length_map, Nat.add_zero, Nat.zero_add]
      refine comp_map (ea := wv) (eb := MV.bl) (fun t => decide (j1 t = j) && decide (j2 t ∈ left)) trivial (by omega) (fun t ht acc2 K3 hl2 hk2 => ?_) ?_
      · simp only [ix_wv0, ix_wv1, getK, setK, Option.isSome_some, eqM_int, neM_int, kit_ii, kit_bi, kit_ni, kit_si, kit_ti, kit_li, kit_ib, kit_bb, kit_tt, kit_it, kit_bt, kit_nt, kit_st, kit_lt, atI0, atI1, atI2, ixN30, ixN31, ixN32, mFn, startM, mSeq, mIf, mAsg, mRet, mRetN, mDrop, mNext, gN, gT, gsCons, gsNil, gIx, mVar, mInt, mBl, mNon, mStr, mC, mOp1, mOp2, int2, plusM, addM, mulM2, negM, isM, isNotM, isNotM2, isM2, mAug, rg1, rg2, mLstRg, mLstRgC, mTupRg, tV, tNo, tAn, Mini.tOr, mAnd, mOr, mNot, Mini.notM, Bool.not_false, Bool.not_true, Bool.false_eq_true, if_false, if_true, reduceIte, mIfE, aNil, aCons, mTup, mLst, mLstC, mSl, slM, pNo, pAt, mB, mCall, lenM, listM, listMC, tupleM, intM, boolM, seqOf, lstOf, Mini.cellOf, mPar, mPar3, mLc, mLcC, mFor, iSeq, Mini.iRng1, Mini.iRng2, Mini.iEnum, Mini.iZip, mIsi, isiM, tyM, mMt, mMt0, appendM, extendM, popM, catF, catF.lstM, mChain, tAll, wipeM, mdK, ixT0, ixT1, ixT2, ixF0, ixF1, ixF2, enumL_map, decide_true, decide_false, isN_non, isN_tup, isN_fl, isN_ref, isN_int, isN_bl, isN_str, getK1, getK2, setK1, setK2, rng_irng, mLc2, Mini.iTup, Mini.tAll, Prod.mk.injEq, and_assoc, List.map_cons, List.map_nil, List.length_cons, List.length_nil, List.replicate, List.cons_append, List.nil_append, List.getElem?_cons_zero, List.getElem?_cons_succ, List.set_cons_zero, List.set_cons_succ, Option.some.injEq, exists_eq_left', exists_eq_left, true_and, and_true, List.cons.injEq, MV.int.injEq, MV.bl.injEq, MV.tup.injEq, MV.fl.injEq, MV.str.injEq, MV.ref.injEq, Option.bind_some, exists_and_left, exists_const, Nat.sub_self, Nat.reduceSub, Nat.reduceAdd, List.append_nil, List.nil_append, List.length_map, Nat.add_zero, Nat.zero_add]
        refine eq_pr ?_
        by_cases e : j1 t = j
        · simp only [e, decide_true, Bool.true_and, getK, setK, Option.isSome_some, eqM_int, neM_int, kit_ii, kit_bi, kit_ni, kit_si, kit_ti, kit_li, kit_ib, kit_bb, kit_tt, kit_it, kit_bt, kit_nt, kit_st, kit_lt, atI0, atI1, atI2, ixN30, ixN31, ixN32, mFn, startM, mSeq, mIf, mAsg, mRet, mRetN, mDrop, mNext, gN, gT, gsCons, gsNil, gIx, mVar, mInt, mBl, mNon, mStr, mC, mOp1, mOp2, int2, plusM, addM, mulM2, negM, isM, isNotM, isNotM2, isM2, mAug, rg1, rg2, mLstRg, mLstRgC, mTupRg, tV, tNo, tAn, Mini.tOr, mAnd, mOr, mNot, Mini.notM, Bool.not_false, Bool.not_true, Bool.false_eq_true, if_false, if_true, reduceIte, mIfE, aNil, aCons, mTup, mLst, mLstC, mSl, slM, pNo, pAt, mB, mCall, lenM, listM, listMC, tupleM, intM, boolM, seqOf, lstOf, Mini.cellOf, mPar, mPar3, mLc, mLcC, mFor, iSeq, Mini.iRng1, Mini.iRng2, Mini.iEnum, Mini.iZip, mIsi, isiM, tyM, mMt, mMt0, appendM, extendM, popM, catF, catF.lstM, mChain, tAll, wipeM, mdK, ixT0, ixT1, ixT2, ixF0, ixF1, ixF2, enumL_map, decide_true, decide_false, isN_non, isN_tup, isN_fl, isN_ref, isN_int, isN_bl, isN_str, getK1, getK2, setK1, setK2, rng_irng, mLc2, Mini.iTup, Mini.tAll, Prod.mk.injEq, and_assoc, List.map_cons, List.map_nil, List.length_cons, List.length_nil, List.replicate, List.cons_append, List.nil_append, List.getElem?_cons_zero, List.getElem?_cons_succ, List.set_cons_zero, List.set_cons_succ, Option.some.injEq, exists_eq_left', exists_eq_left, true_and, and_true, List.cons.injEq, MV.int.injEq, MV.bl.injEq, MV.tup.injEq, MV.fl.injEq, MV.str.injEq, MV.ref.injEq, Option.bind_some, exists_and_left, exists_const, Nat.sub_self, Nat.reduceSub, Nat.reduceAdd, List.append_nil, List.nil_append, List.length_map, Nat.add_zero, Nat.zero_add] at hk2 ⊢
          refine in_pr rfl ⟨hl2, hk2⟩
        · simp only [e, decide_false, Bool.false_and, getK, setK, Option.isSome_some, eqM_int, neM_int, kit_ii, kit_bi, kit_ni, kit_si, kit_ti, kit_li, kit_ib, kit_bb, kit_tt, kit_it, kit_bt, kit_nt, kit_st, kit_lt, atI0, atI1, atI2, ixN30, ixN31, ixN32, mFn, startM, mSeq, mIf, mAsg, mRet, mRetN, mDrop, mNext, gN, gT, gsCons, gsNil, gIx, mVar, mInt, mBl, mNon, mStr, mC, mOp1, mOp2, int2, plusM, addM, mulM2, negM, isM, isNotM, isNotM2, isM2, mAug, rg1, rg2, mLstRg, mLstRgC, mTupRg, tV, tNo, tAn, Mini.tOr, mAnd, mOr, mNot, Mini.notM, Bool.not_false, Bool.not_true, Bool.false_eq_true, if_false, if_true, reduceIte, mIfE, aNil, aCons, mTup, mLst, mLstC, mSl, slM, pNo, pAt, mB, mCall, lenM, listM, listMC, tupleM, intM, boolM, seqOf, lstOf, Mini.cellOf, mPar, mPar3, mLc, mLcC, mFor, iSeq, Mini.iRng1, Mini.iRng2, Mini.iEnum, Mini.iZip, mIsi, isiM, tyM, mMt, mMt0, appendM, extendM, popM, catF, catF.lstM, mChain, tAll, wipeM, mdK, ixT0, ixT1, ixT2, ixF0, ixF1, ixF2, enumL_map, decide_true, decide_false, isN_non, isN_tup, isN_fl, isN_ref, isN_int, isN_bl, isN_str, getK1, getK2, setK1, setK2, rng_irng, mLc2, Mini.iTup, Mini.tAll, Prod.mk.injEq, and_assoc, List.map_cons, List.map_nil, List.length_cons, List.length_nil, List.replicate, List.cons_append, List.nil_append, List.getElem?_cons_zero, List.getElem?_cons_succ, List.set_cons_zero, List.set_cons_succ, Option.some.injEq, exists_eq_left', exists_eq_left, true_and, and_true, List.cons.injEq, MV.int.injEq, MV.bl.injEq, MV.tup.injEq, MV.fl.injEq, MV.str.injEq, MV.ref.injEq, Option.bind_some, exists_and_left, exists_const, Nat.sub_self, Nat.reduceSub, Nat.reduceAdd, List.append_nil, List.nil_append, List.length_map, Nat.add_zero, Nat.zero_add] at hk2 ⊢
          exact ⟨hl2, hk2⟩
      · rw [List.map_map]
        refine any_map (p := fun t => decide (j1 t = j) && decide (j2 t ∈ left)) ?_
        cases e : (zt ss es).any fun t => decide (j1 t = j) && decide (j2 t ∈ left) with
        | true => simp only [e, getK, setK, Option.isSome_some, eqM_int, neM_int, kit_ii, kit_bi, kit_ni, kit_si, kit_ti, kit_li, kit_ib, kit_bb, kit_tt, kit_it, kit_bt, kit_nt, kit_st, kit_lt, atI0, atI1, atI2, ixN30, ixN31, ixN32, mFn, startM, mSeq, mIf, mAsg, mRet, mRetN, mDrop, mNext, gN, gT, gsCons, gsNil, gIx, mVar, mInt, mBl, mNon, mStr, mC, mOp1, mOp2, int2, plusM, addM, mulM2, negM, isM, isNotM, isNotM2, isM2, mAug, rg1, rg2, mLstRg, mLstRgC, mTupRg, tV, tNo, tAn, Mini.tOr, mAnd, mOr, mNot, Mini.notM, Bool.not_false, Bool.not_true, Bool.false_eq_true, if_false, if_true, reduceIte, mIfE, aNil, aCons, mTup, mLst, mLstC, mSl, slM, pNo, pAt, mB, mCall, lenM, listM, listMC, tupleM, intM, boolM, seqOf, lstOf, Mini.cellOf, mPar, mPar3, mLc, mLcC, mFor, iSeq, Mini.iRng1, Mini.iRng2, Mini.iEnum, Mini.iZip, mIsi, isiM, tyM, mMt, mMt0, appendM, extendM, popM, catF, catF.lstM, mChain, tAll, wipeM, mdK, ixT0, ixT1, ixT2, ixF0, ixF1, ixF2, enumL_map, decide_true, decide_false, isN_non, isN_tup, isN_fl, isN_ref, isN_int, isN_bl, isN_str, getK1, getK2, setK1, setK2, rng_irng, mLc2, Mini.iTup, Mini.tAll, Prod.mk.injEq, and_assoc, List.map_cons, List.map_nil, List.length_cons, List.length_nil, List.replicate, List.cons_append, List.nil_append, List.getElem?_cons_zero, List.getElem?_cons_succ, List.set_cons_zero, List.set_cons_succ, Option.some.injEq, exists_eq_left', exists_eq_left, true_and, and_true, List.cons.injEq, MV.int.injEq, MV.bl.injEq, MV.tup.injEq, MV.fl.injEq, MV.str.injEq, MV.ref.injEq, Option.bind_some, exists_and_left, exists_const, Nat.sub_self, Nat.reduceSub, Nat.reduceAdd, List.append_nil, List.nil_append, List.length_map, Nat.add_zero, Nat.zero_add] at hk ⊢; exact ⟨hl, hk⟩
        | false => simp only [e, getK, setK, Option.isSome_some, eqM_int, neM_int, kit_ii, kit_bi, kit_ni, kit_si, kit_ti, kit_li, kit_ib, kit_bb, kit_tt, kit_it, kit_bt, kit_nt, kit_st, kit_lt, atI0, atI1, atI2, ixN30, ixN31, ixN32, mFn, startM, mSeq, mIf, mAsg, mRet, mRetN, mDrop, mNext, gN, gT, gsCons, gsNil, gIx, mVar, mInt, mBl, mNon, mStr, mC, mOp1, mOp2, int2, plusM, addM, mulM2, negM, isM, isNotM, isNotM2, isM2, mAug, rg1, rg2, mLstRg, mLstRgC, mTupRg, tV, tNo, tAn, Mini.tOr, mAnd, mOr, mNot, Mini.notM, Bool.not_false, Bool.not_true, Bool.false_eq_true, if_false, if_true, reduceIte, mIfE, aNil, aCons, mTup, mLst, mLstC, mSl, slM, pNo, pAt, mB, mCall, lenM, listM, listMC, tupleM, intM, boolM, seqOf, lstOf, Mini.cellOf, mPar, mPar3, mLc, mLcC, mFor, iSeq, Mini.iRng1, Mini.iRng2, Mini.iEnum, Mini.iZip, mIsi, isiM, tyM, mMt, mMt0, appendM, extendM, popM, catF, catF.lstM, mChain, tAll, wipeM, mdK, ixT0, ixT1, ixT2, ixF0, ixF1, ixF2, enumL_map, decide_true, decide_false, isN_non, isN_tup, isN_fl, isN_ref, isN_int, isN_bl, isN_str, getK1, getK2, setK1, setK2, rng_irng, mLc2, Mini.iTup, Mini.tAll, Prod.mk.injEq, and_assoc, List.map_cons, List.map_nil, List.length_cons, List.length_nil, List.replicate, List.cons_append, List.nil_append, List.getElem?_cons_zero, List.getElem?_cons_succ, List.set_cons_zero, List.set_cons_succ, Option.some.injEq, exists_eq_left', exists_eq_left, true_and, and_true, List.cons.injEq, MV.int.injEq, MV.bl.injEq, MV.tup.injEq, MV.fl.injEq, MV.str.injEq, MV.ref.injEq, Option.bind_some, exists_and_left, exists_const, Nat.sub_self, Nat.reduceSub, Nat.reduceAdd, List.append_nil, List.nil_append, List.length_map, Nat.add_zero, Nat.zero_add] at hk ⊢; exact hk
    · generalize hkept : (left.filter fun j => (zt ss es).any fun t => decide (j1 t = j) && decide (j2 t ∈ left)) = kept
      have hmem : ∀ j, j ∈ kept ↔ j ∈ left ∧ ∃ t ∈ zt ss es, j1 t = j ∧ j2 t ∈ left := fun j => by
        rw [← hkept, List.mem_filter, List.any_eq_true]
        simp only [Bool.and_eq_true, decide_eq_true_eq]
      have hle : kept.length ≤ left.length := by rw [← hkept]; exact List.length_filter_le _ _
      refine ⟨smallLine (by decide), ?_⟩
      refine hK (2 * kept.length + (if decide (kept.length < left.length) = true then 1 else 0)) _ _ ?_ ⟨kept, decide (kept.length < left.length), some (.fl (kept.map pr2)), x5, x6, x7, x8, x9, ?_, rfl, by omega, fun j hj => h2 j ((hmem j).mp hj).1, fun e j hj => ?_, fun S hS hc j hj => (hmem j).mpr ⟨h4 S hS hc j hj, ?_⟩, rfl⟩
      · rw [en, if_pos rfl]
        split
        · rename_i hd
          have := of_decide_eq_true hd
          omega
        · omega
      · have e : decide (((kept.map pr2).length : Int) < (left.length : Int)) = decide (kept.length < left.length) := by
          rw [List.length_map, Bool.eq_iff_iff, decide_eq_true_eq, decide_eq_true_eq]
          omega
        rw [e]
      · have heq : kept.length = left.length := by
          have := of_decide_eq_false e
          omega
        have hall : kept = left := by
          rw [← hkept] at heq ⊢
          exact List.filter_eq_self.mpr (List.length_filter_eq_length_iff.mp heq)
        rw [hall] at hj ⊢
        rw [← hall] at hj
        obtain ⟨_, t, ht, e1, e2⟩ := (hmem j).mp hj
        exact ⟨t, ht, e1, e2⟩
      · obtain ⟨t, ht, e1, e2⟩ := hc j hj
        exact ⟨t, ht, e1, h4 S hS hc _ e2⟩
theorem find_zero_ok {ss : List Int} {es : List T5} (P : POk ss es) {h : MHp} (hh : Hh h) {Q E : MQ} (k : Q .non h) : f_find_zero [plan ss es] h Q E := by
  have hs := P.s
  simp only [f_find_zero, zero_body, getK, setK, Option.isSome_some, eqM_int, neM_int, kit_ii, kit_bi, kit_ni, kit_si, kit_ti, kit_li, kit_ib, kit_bb, kit_tt, kit_it, kit_bt, kit_nt, kit_st, kit_lt, atI0, atI1, atI2, ixN30, ixN31, ixN32, mFn, startM, mSeq, mIf, mAsg, mRet, mRetN, mDrop, mNext, gN, gT, gsCons, gsNil, gIx, mVar, mInt, mBl, mNon, mStr, mC, mOp1, mOp2, int2, plusM, addM, mulM2, negM, isM, isNotM, isNotM2, isM2, mAug, rg1, rg2, mLstRg, mLstRgC, mTupRg, tV, tNo, tAn, Mini.tOr, mAnd, mOr, mNot, Mini.notM, Bool.not_false, Bool.not_true, Bool.false_eq_true, if_false, if_true, reduceIte, mIfE, aNil, aCons, mTup, mLst, mLstC, mSl, slM, pNo, pAt, mB, mCall, lenM, listM, listMC, tupleM, intM, boolM, seqOf, lstOf, Mini.cellOf, mPar, mPar3, mLc, mLcC, mFor, iSeq, Mini.iRng1, Mini.iRng2, Mini.iEnum, Mini.iZip, mIsi, isiM, tyM, mMt, mMt0, appendM, extendM, popM, catF, catF.lstM, mChain, tAll, wipeM, mdK, ixT0, ixT1, ixT2, ixF0, ixF1, ixF2, enumL_map, decide_true, decide_false, isN_non, isN_tup, isN_fl, isN_ref, isN_int, isN_bl, isN_str, getK1, getK2, setK1, setK2, rng_irng, mLc2, Mini.iTup, Mini.tAll, Prod.mk.injEq, and_assoc, List.map_cons, List.map_nil, List.length_cons, List.length_nil, List.replicate, List.cons_append, List.nil_append, List.getElem?_cons_zero, List.getElem?_cons_succ, List.set_cons_zero, List.set_cons_succ, Option.some.injEq, exists_eq_left', exists_eq_left, true_and, and_true, List.cons.injEq, MV.int.injEq, MV.bl.injEq, MV.tup.injEq, MV.fl.injEq, MV.str.injEq, MV.ref.injEq, Option.bind_some, exists_and_left, exists_const, Nat.sub_self, Nat.reduceSub, Nat.reduceAdd, List.append_nil, List.nil_append, List.length_map, Nat.add_zero, Nat.zero_add]
  generalize hzw : zwB = zw
  generalize hzr : zrB = zr
  refine find_links_ok hs.len P.len hs.s hh ?_
  try simp only [getK, setK, Option.isSome_some, eqM_int, neM_int, kit_ii, kit_bi, kit_ni, kit_si, kit_ti, kit_li, kit_ib, kit_bb, kit_tt, kit_it, kit_bt, kit_nt, kit_st, kit_lt, atI0, atI1, atI2, ixN30, ixN31, ixN32, mFn, startM, mSeq, mIf, mAsg, mRet, mRetN, mDrop, mNext, gN, gT, gsCons, gsNil, gIx, mVar, mInt, mBl, mNon, mStr, mC, mOp1, mOp2, int2, plusM, addM, mulM2, negM, isM, isNotM, isNotM2, isM2, mAug, rg1, rg2, mLstRg, mLstRgC, mTupRg, tV, tNo, tAn, Mini.tOr, mAnd, mOr, mNot, Mini.notM, Bool.not_false, Bool.not_true, Bool.false_eq_true, if_false, if_true, reduceIte, mIfE, aNil, aCons, mTup, mLst, mLstC, mSl, slM, pNo, pAt, mB, mCall, lenM, listM, listMC, tupleM, intM, boolM, seqOf, lstOf, Mini.cellOf, mPar, mPar3, mLc, mLcC, mFor, iSeq, Mini.iRng1, Mini.iRng2, Mini.iEnum, Mini.iZip, mIsi, isiM, tyM, mMt, mMt0, appendM, extendM, popM, catF, catF.lstM, mChain, tAll, wipeM, mdK, ixT0, ixT1, ixT2, ixF0, ixF1, ixF2, enumL_map, decide_true, decide_false, isN_non, isN_tup, isN_fl, isN_ref, isN_int, isN_bl, isN_str, getK1, getK2, setK1, setK2, rng_irng, mLc2, Mini.iTup, Mini.tAll, Prod.mk.injEq, and_assoc, List.map_cons, List.map_nil, List.length_cons, List.length_nil, List.replicate, List.cons_append, List.nil_append, List.getElem?_cons_zero, List.getElem?_cons_succ, List.set_cons_zero, List.set_cons_succ, Option.some.injEq, exists_eq_left', exists_eq_left, true_and, and_true, List.cons.injEq, MV.int.injEq, MV.bl.injEq, MV.tup.injEq, MV.fl.injEq, MV.str.injEq, MV.ref.injEq, Option.bind_some, exists_and_left, exists_const, Nat.sub_self, Nat.reduceSub, Nat.reduceAdd, List.append_nil, List.nil_append, List.length_map, Nat.add_zero, Nat.zero_add]
  refine comp_filter (ea := wv) (fun t => decide (dst t = 0)) (by rw [getK]) (by have := tiesOf_len hs.len P.len hs.s; omega) (fun t ht acc K hl hk => ?_) ?_
  · simp only [ix_wv2, getK, setK, Option.isSome_some, eqM_int, neM_int, kit_ii, kit_bi, kit_ni, kit_si, kit_ti, kit_li, kit_ib, kit_bb, kit_tt, kit_it, kit_bt, kit_nt, kit_st, kit_lt, atI0, atI1, atI2, ixN30, ixN31, ixN32, mFn, startM, mSeq, mIf, mAsg, mRet, mRetN, mDrop, mNext, gN, gT, gsCons, gsNil, gIx, mVar, mInt, mBl, mNon, mStr, mC, mOp1, mOp2, int2, plusM, addM, mulM2, negM, isM, isNotM, isNotM2, isM2, mAug, rg1, rg2, mLstRg, mLstRgC, mTupRg, tV, tNo, tAn, Mini.tOr, mAnd, mOr, mNot, Mini.notM, Bool.not_false, Bool.not_true, Bool.false_eq_true, if_false, if_true, reduceIte, mIfE, aNil, aCons, mTup, mLst, mLstC, mSl, slM, pNo, pAt, mB, mCall, lenM, listM, listMC, tupleM, intM, boolM, seqOf, lstOf, Mini.cellOf, mPar, mPar3, mLc, mLcC, mFor, iSeq, Mini.iRng1, Mini.iRng2, Mini.iEnum, Mini.iZip, mIsi, isiM, tyM, mMt, mMt0, appendM, extendM, popM, catF, catF.lstM, mChain, tAll, wipeM, mdK, ixT0, ixT1, ixT2, ixF0, ixF1, ixF2, enumL_map, decide_true, decide_false, isN_non, isN_tup, isN_fl, isN_ref, isN_int, isN_bl, isN_str, getK1, getK2, setK1, setK2, rng_irng, mLc2, Mini.iTup, Mini.tAll, Prod.mk.injEq, and_assoc, List.map_cons, List.map_nil, List.length_cons, List.length_nil, List.replicate, List.cons_append, List.nil_append, List.getElem?_cons_zero, List.getElem?_cons_succ, List.set_cons_zero, List.set_cons_succ, Option.some.injEq, exists_eq_left', exists_eq_left, true_and, and_true, List.cons.injEq, MV.int.injEq, MV.bl.injEq, MV.tup.injEq, MV.fl.injEq, MV.str.injEq, MV.ref.injEq, Option.bind_some, exists_and_left, exists_const, Nat.sub_self, Nat.reduceSub, Nat.reduceAdd, List.append_nil, List.nil_append, List.length_map, Nat.add_zero, Nat.zero_add]
    by_cases e : dst t = 0
    · simp only [e, decide_true, beq_self_eq_true, if_true] at hk ⊢
      exact ⟨hl, hk⟩
    · have e2 : (dst t == 0) = false := by simpa using e
      simp only [e, e2, decide_false, Bool.false_eq_true, if_false] at hk ⊢
      exact hk
  · refine list_jobs_ok hs (h := h ++ [.lst ((tiesOf ss es).map wv)]) ?_ ?_
    · exact hh_lst hh (wv_sok_all _)
    · subst hzw
      refine zero_loop hs P.w P.len fun left x3 x4 x5 x6 x7 x8 x9 h1 h2 _ => ?_
      have e : left = [] := sound_none P.snd (left := left) fun j hj => by
        obtain ⟨t, ht, e1, e2⟩ := h2 j hj
        obtain ⟨h3, h0⟩ := mem_zt.mp ht
        exact ⟨t, List.mem_append.mpr h3, h0, e1, e2⟩
      subst e
      try simp only [getK, setK, Option.isSome_some, eqM_int, neM_int, kit_ii, kit_bi, kit_ni, kit_si, kit_ti, kit_li, kit_ib, kit_bb, kit_tt, kit_it, kit_bt, kit_nt, kit_st, kit_lt, atI0, atI1, atI2, ixN30, ixN31, ixN32, mFn, startM, mSeq, mIf, mAsg, mRet, mRetN, mDrop, mNext, gN, gT, gsCons, gsNil, gIx, mVar, mInt, mBl, mNon, mStr, mC, mOp1, mOp2, int2, plusM, addM, mulM2, negM, isM, isNotM, isNotM2, isM2, mAug, rg1, rg2, mLstRg, mLstRgC, mTupRg, tV, tNo, tAn, Mini.tOr, mAnd, mOr, mNot, Mini.notM, Bool.not_false, Bool.not_true, Bool.false_eq_true, if_false, if_true, reduceIte, mIfE, aNil, aCons, mTup, mLst, mLstC, mSl, slM, pNo, pAt, mB, mCall, lenM, listM, listMC, tupleM, intM, boolM, seqOf, lstOf, Mini.cellOf, mPar, mPar3, mLc, mLcC, mFor, iSeq, Mini.iRng1, Mini.iRng2, Mini.iEnum, Mini.iZip, mIsi, isiM, tyM, mMt, mMt0, appendM, extendM, popM, catF, catF.lstM, mChain, tAll, wipeM, mdK, ixT0, ixT1, ixT2, ixF0, ixF1, ixF2, enumL_map, decide_true, decide_false, isN_non, isN_tup, isN_fl, isN_ref, isN_int, isN_bl, isN_str, getK1, getK2, setK1, setK2, rng_irng, mLc2, Mini.iTup, Mini.tAll, Prod.mk.injEq, and_assoc, List.map_cons, List.map_nil, List.length_cons, List.length_nil, List.replicate, List.cons_append, List.nil_append, List.getElem?_cons_zero, List.getElem?_cons_succ, List.set_cons_zero, List.set_cons_succ, Option.some.injEq, exists_eq_left', exists_eq_left, true_and, and_true, List.cons.injEq, MV.int.injEq, MV.bl.injEq, MV.tup.injEq, MV.fl.injEq, MV.str.injEq, MV.ref.injEq, Option.bind_some, exists_and_left, exists_const, Nat.sub_self, Nat.reduceSub, Nat.reduceAdd, List.append_nil, List.nil_append, List.length_map, Nat.add_zero, Nat.zero_add]
      refine ⟨smallLine (by decide), eqFF ?_⟩
      try simp only [getK, setK, Option.isSome_some, eqM_int, neM_int, kit_ii, kit_bi, kit_ni, kit_si, kit_ti, kit_li, kit_ib, kit_bb, kit_tt, kit_it, kit_bt, kit_nt, kit_st, kit_lt, atI0, atI1, atI2, ixN30, ixN31, ixN32, mFn, startM, mSeq, mIf, mAsg, mRet, mRetN, mDrop, mNext, gN, gT, gsCons, gsNil, gIx, mVar, mInt, mBl, mNon, mStr, mC, mOp1, mOp2, int2, plusM, addM, mulM2, negM, isM, isNotM, isNotM2, isM2, mAug, rg1, rg2, mLstRg, mLstRgC, mTupRg, tV, tNo, tAn, Mini.tOr, mAnd, mOr, mNot, Mini.notM, Bool.not_false, Bool.not_true, Bool.false_eq_true, if_false, if_true, reduceIte, mIfE, aNil, aCons, mTup, mLst, mLstC, mSl, slM, pNo, pAt, mB, mCall, lenM, listM, listMC, tupleM, intM, boolM, seqOf, lstOf, Mini.cellOf, mPar, mPar3, mLc, mLcC, mFor, iSeq, Mini.iRng1, Mini.iRng2, Mini.iEnum, Mini.iZip, mIsi, isiM, tyM, mMt, mMt0, appendM, extendM, popM, catF, catF.lstM, mChain, tAll, wipeM, mdK, ixT0, ixT1, ixT2, ixF0, ixF1, ixF2, enumL_map, decide_true, decide_false, isN_non, isN_tup, isN_fl, isN_ref, isN_int, isN_bl, isN_str, getK1, getK2, setK1, setK2, rng_irng, mLc2, Mini.iTup, Mini.tAll, Prod.mk.injEq, and_assoc, List.map_cons, List.map_nil, List.length_cons, List.length_nil, List.replicate, List.cons_append, List.nil_append, List.getElem?_cons_zero, List.getElem?_cons_succ, List.set_cons_zero, List.set_cons_succ, Option.some.injEq, exists_eq_left', exists_eq_left, true_and, and_true, List.cons.injEq, MV.int.injEq, MV.bl.injEq, MV.tup.injEq, MV.fl.injEq, MV.str.injEq, MV.ref.injEq, Option.bind_some, exists_and_left, exists_const, Nat.sub_self, Nat.reduceSub, Nat.reduceAdd, List.append_nil, List.nil_append, List.length_map, Nat.add_zero, Nat.zero_add]
      exact mdF_sok rfl hh rfl k
theorem require_lasting_ok {ss : List Int} {es : List T5} (P : POk ss es) {h : MHp} (hh : Hh h) {Q E : MQ} (k : Q .non h) : f_require_lasting [plan ss es] h Q E := by
  simp only [f_require_lasting, b_require_lasting, getK, setK, Option.isSome_some, eqM_int, neM_int, kit_ii, kit_bi, kit_ni, kit_si, kit_ti, kit_li, kit_ib, kit_bb, kit_tt, kit_it, kit_bt, kit_nt, kit_st, kit_lt, atI0, atI1, atI2, ixN30, ixN31, ixN32, mFn, startM, mSeq, mIf, mAsg, mRet, mRetN, mDrop, mNext, gN, gT, gsCons, gsNil, gIx, mVar, mInt, mBl, mNon, mStr, mC, mOp1, mOp2, int2, plusM, addM, mulM2, negM, isM, isNotM, isNotM2, isM2, mAug, rg1, rg2, mLstRg, mLstRgC, mTupRg, tV, tNo, tAn, Mini.tOr, mAnd, mOr, mNot, Mini.notM, Bool.not_false, Bool.not_true, Bool.false_eq_true, if_false, if_true, reduceIte, mIfE, aNil, aCons, mTup, mLst, mLstC, mSl, slM, pNo, pAt, mB, mCall, lenM, listM, listMC, tupleM, intM, boolM, seqOf, lstOf, Mini.cellOf, mPar, mPar3, mLc, mLcC, mFor, iSeq, Mini.iRng1, Mini.iRng2, Mini.iEnum, Mini.iZip, mIsi, isiM, tyM, mMt, mMt0, appendM, extendM, popM, catF, catF.lstM, mChain, tAll, wipeM, mdK, ixT0, ixT1, ixT2, ixF0, ixF1, ixF2, enumL_map, decide_true, decide_false, isN_non, isN_tup, isN_fl, isN_ref, isN_int, isN_bl, isN_str, getK1, getK2, setK1, setK2, rng_irng, mLc2, Mini.iTup, Mini.tAll, Prod.mk.injEq, and_assoc, List.map_cons, List.map_nil, List.length_cons, List.length_nil, List.replicate, List.cons_append, List.nil_append, List.getElem?_cons_zero, List.getElem?_cons_succ, List.set_cons_zero, List.set_cons_succ, Option.some.injEq, exists_eq_left', exists_eq_left, true_and, and_true, List.cons.injEq, MV.int.injEq, MV.bl.injEq, MV.tup.injEq, MV.fl.injEq, MV.str.injEq, MV.ref.injEq, Option.bind_some, exists_and_left, exists_const, Nat.sub_self, Nat.reduceSub, Nat.reduceAdd, List.append_nil, List.nil_append, List.length_map, Nat.add_zero, Nat.zero_add]
  refine require_ok hh (plan_sok ss es) P.planB ?_
  refine find_zero_ok P hh ?_
  try simp only [getK, setK, Option.isSome_some, eqM_int, neM_int, kit_ii, kit_bi, kit_ni, kit_si, kit_ti, kit_li, kit_ib, kit_bb, kit_tt, kit_it, kit_bt, kit_nt, kit_st, kit_lt, atI0, atI1, atI2, ixN30, ixN31, ixN32, mFn, startM, mSeq, mIf, mAsg, mRet, mRetN, mDrop, mNext, gN, gT, gsCons, gsNil, gIx, mVar, mInt, mBl, mNon, mStr, mC, mOp1, mOp2, int2, plusM, addM, mulM2, negM, isM, isNotM, isNotM2, isM2, mAug, rg1, rg2, mLstRg, mLstRgC, mTupRg, tV, tNo, tAn, Mini.tOr, mAnd, mOr, mNot, Mini.notM, Bool.not_false, Bool.not_true, Bool.false_eq_true, if_false, if_true, reduceIte, mIfE, aNil, aCons, mTup, mLst, mLstC, mSl, slM, pNo, pAt, mB, mCall, lenM, listM, listMC, tupleM, intM, boolM, seqOf, lstOf, Mini.cellOf, mPar, mPar3, mLc, mLcC, mFor, iSeq, Mini.iRng1, Mini.iRng2, Mini.iEnum, Mini.iZip, mIsi, isiM, tyM, mMt, mMt0, appendM, extendM, popM, catF, catF.lstM, mChain, tAll, wipeM, mdK, ixT0, ixT1, ixT2, ixF0, ixF1, ixF2, enumL_map, decide_true, decide_false, isN_non, isN_tup, isN_fl, isN_ref, isN_int, isN_bl, isN_str, getK1, getK2, setK1, setK2, rng_irng, mLc2, Mini.iTup, Mini.tAll, Prod.mk.injEq, and_assoc, List.map_cons, List.map_nil, List.length_cons, List.length_nil, List.replicate, List.cons_append, List.nil_append, List.getElem?_cons_zero, List.getElem?_cons_succ, List.set_cons_zero, List.set_cons_succ, Option.some.injEq, exists_eq_left', exists_eq_left, true_and, and_true, List.cons.injEq, MV.int.injEq, MV.bl.injEq, MV.tup.injEq, MV.fl.injEq, MV.str.injEq, MV.ref.injEq, Option.bind_some, exists_and_left, exists_const, Nat.sub_self, Nat.reduceSub, Nat.reduceAdd, List.append_nil, List.nil_append, List.length_map, Nat.add_zero, Nat.zero_add]
  exact fin_non hh k
end Lw
namespace Mini
open PySem PySem.Spec PyProof.Rows L2
def compd (ok : MHp → Prop) (g : MG) (t : MT) (ek ev : ME) (s : MSt) (xs : List MV) (h : MHp) [K : Hold (List MV → List MV → MHp → Prop)] : Prop := compD ok g t ek ev s xs [] [] h K.val
def setD (x k v : MV) (s : MSt) (h : MHp) [Q : Hold (MSt → MHp → Prop)] : Prop := ∃ n ep ks vs q, x = .ref n ∧ h[n]? = some (.dct ep ks vs) ∧ tkey k = some q ∧ ks.length < 16777216 ∧ ∀ ep', Q.val s (h.set n (.dct ep' (dPutK ks k q) (dPutW ks vs q v)))
section
variable {mi : MI} {g : MG} {t : MT} {ek ev a o i : ME} {own : List Nat} {s : MSt} {h : MHp} {Q E : MQ} {ok : MHp → Prop} {N : MSt → MHp → Prop} {R : MR}
theorem mDc_at : mDc mi g t ek ev own s h Q E = mi s h (fun xs ok h1 => @compd ok g t ek ev (wipeM s own) xs h1 ⟨fun ks vs h2 => ∀ ep, Q (.ref h2.length) (h2 ++ [.dct ep ks vs])⟩) E := rfl
theorem mD0_at : mD0 s h Q E = ∀ ep, Q (.ref h.length) (h ++ [.dct ep [] []]) := rfl
theorem gIxD_at {v : MV} : gIxD o i v s h N E = o s h (fun x h1 => i s h1 (fun k h2 => @setD x k v s h2 ⟨N⟩) E) E := rfl
theorem ixD_i {v u x : MV} {ks vs : List MV} {q : NestedKey} (hd : dctOf h v = some (ks, vs)) (hk : tkey u = some q) (hg : dGet ks vs q = some x) (k : Q x h) : @o2 ixD v u h ⟨Q⟩ := ⟨ks, vs, q, x, hd, hk, hg, k⟩
theorem inD_i {v u : MV} {ks vs : List MV} {q : NestedKey} {b : Bool} (hd : dctOf h u = some (ks, vs)) (hk : tkey v = some q) (hg : dHas ks q = b) (k : Q (.bl b) h) : @o2 inD v u h ⟨Q⟩ := ⟨ks, vs, q, hd, hk, by rw [hg]; exact k⟩
theorem setD_i {n ep : Nat} {k v : MV} {ks vs : List MV} {q : NestedKey} (hc : h[n]? = some (.dct ep ks vs)) (hk : tkey k = some q) (hl : ks.length < 16777216) (nx : ∀ ep', N s (h.set n (.dct ep' (dPutK ks k q) (dPutW ks vs q v)))) : @setD (.ref n) k v s h ⟨N⟩ := ⟨n, ep, ks, vs, q, rfl, hc, hk, hl, nx⟩
theorem dct_ref {n ep : Nat} {ks vs : List MV} (hc : h[n]? = some (.dct ep ks vs)) : dctOf h (.ref n) = some (ks, vs) := by simp [dctOf, hc]
end
def itd (ek ev : ME) [K : Hold (MV → MV → MHp → Prop)] (s : MSt) (h : MHp) : Prop := ek s h (fun k h3 => ev s h3 (fun v h4 => K.val k v h4) NoE) NoE
theorem itd_at {ek ev : ME} {K : MV → MV → MHp → Prop} {s : MSt} {h : MHp} : @itd ek ev ⟨K⟩ s h = ek s h (fun k h3 => ev s h3 (fun v h4 => K k v h4) NoE) NoE := rfl
section
variable {α : Type} {ek : α → MV} {k : α → NestedKey}
theorem dHas_map [DecidableEq α] (hk : ∀ a, tkey (ek a) = some (k a)) (inj : ∀ a b, k a = k b → a = b) (as : List α) (a : α) : dHas (as.map ek) (k a) = decide (a ∈ as) := by
  unfold dHas
  rw [List.any_map]
  induction as with
  | nil => rfl
  | cons b as ih =>
    obtain ⟨_, _, _, _, e, _⟩ := tkey_some (hk b)
    rw [List.any_cons, ih]
    simp only [Function.comp_apply, e, Option.some.injEq, List.mem_cons]
    by_cases h : k b = k a
    · have := inj _ _ h
      subst this
      simp
    · have h2 : ¬ a = b := fun e => h (by rw [e])
      simp [h, h2]
theorem dPutK_new {ks : List MV} {q : NestedKey} (h : dHas ks q = false) (kq : MV) : dPutK ks kq q = ks ++ [kq] := by unfold dPutK; rw [h]; exact if_neg Bool.false_ne_true
theorem dPutW_new {ks : List MV} {q : NestedKey} (h : dHas ks q = false) (vs : List MV) (x : MV) : dPutW ks vs q x = vs ++ [x] := by unfold dPutW; rw [h]; exact if_neg Bool.false_ne_true
theorem dHas_no (hk : ∀ a, tkey (ek a) = some (k a)) {as : List α} {q : NestedKey} (h : q ∉ as.map k) : dHas (as.map ek) q = false := by
  unfold dHas
  rw [List.any_map, List.any_eq_false]
  intro a ha
  obtain ⟨_, _, _, _, e, _⟩ := tkey_some (hk a)
  simp only [Function.comp_apply, e, Option.some.injEq, decide_eq_true_eq]
  exact fun z => h (z ▸ List.mem_map.mpr ⟨a, ha, rfl⟩)
theorem cpd_ind {ea : α → MV} {ok : MHp → Prop} {g : MG} {ke ve : ME} {s0 : MSt} {Q : List MV → List MV → MHp → Prop} {h : MHp} {as : List α} (hk : ∀ a, tkey (ek a) = some (k a)) (nd : (as.map k).Nodup) (hl : as.length ≤ 16777216)
    (I : List α → List α → List MV → MHp → Prop) (hi : I as [] [] h) (hok : ∀ xs ys vs h, I xs ys vs h → ok h) (hend : ∀ vs h, I [] as vs h → Q (as.map ek) vs h)
    (hs : ∀ x xs ys vs h K, as = ys ++ x :: xs → I (x :: xs) ys vs h → (∀ v h2, I xs (ys ++ [x]) (vs ++ [v]) h2 → K (ek x) v h2) → g (ea x) s0 h (@itd ke ve ⟨K⟩) NoE) :
    @compd ok g tAll ke ve s0 (as.map ea) h ⟨Q⟩ := by
  have key : ∀ (xs ys : List α) (vs : List MV) (h : MHp), as = ys ++ xs → I xs ys vs h → compD ok g tAll ke ve s0 (xs.map ea) (ys.map ek) vs h Q := by
    intro xs
    induction xs with
    | nil =>
      intro ys vs h e i
      rw [List.append_nil] at e
      subst e
      exact ⟨hok _ _ _ _ i, hend _ _ i⟩
    | cons x xs ih =>
      intro ys vs h e i
      refine ⟨hok _ _ _ _ i, ?_⟩
      have hno : k x ∉ ys.map k := by
        rw [e, List.map_append, List.map_cons] at nd
        have := (List.nodup_append.mp nd).2.2
        exact fun z => this _ z _ List.mem_cons_self rfl
      have hf := dHas_no hk hno
      have hlen : ys.length < 16777216 := by rw [e, List.length_append, List.length_cons] at hl; omega
      refine hs x xs ys vs h (fun kk v h4 => ∃ q, tkey kk = some q ∧ (ys.map ek).length < 16777216 ∧ compD ok g tAll ke ve s0 (xs.map ea) (dPutK (ys.map ek) kk q) (dPutW (ys.map ek) vs q v) h4 Q) e i fun v h2 i2 => ⟨k x, hk x, by rw [List.length_map]; exact hlen, ?_⟩
      rw [dPutK_new hf, dPutW_new hf]
      have := ih (ys ++ [x]) (vs ++ [v]) h2 (by rw [List.append_assoc]; exact e) i2
      rw [List.map_append] at this
      exact this
  exact key as [] [] h rfl hi
theorem cpd_map {ea : α → MV} {ok : MHp → Prop} {g : MG} {ke ve : ME} {s0 : MSt} {Q : List MV → List MV → MHp → Prop} {h : MHp} {as : List α} (hk : ∀ a, tkey (ek a) = some (k a)) (nd : (as.map k).Nodup) (hl : as.length ≤ 16777216) (F : α → MV) (hok : ok h) (q : Q (as.map ek) (as.map F) h)
    (hs : ∀ a ∈ as, ∀ K : MV → MV → MHp → Prop, K (ek a) (F a) h → g (ea a) s0 h (@itd ke ve ⟨K⟩) NoE) : @compd ok g tAll ke ve s0 (as.map ea) h ⟨Q⟩ := by
  refine cpd_ind hk nd hl (fun xs ys vs h' => h' = h ∧ vs = ys.map F) ⟨rfl, rfl⟩ (fun _ _ _ _ ⟨e, _⟩ => e ▸ hok) (fun vs h' ⟨e1, e2⟩ => by rw [e1, e2]; exact q) fun x xs ys vs h' K e ⟨e1, e2⟩ hK => ?_
  subst e1 e2
  exact hs x (by rw [e]; simp) K (hK _ _ ⟨rfl, by rw [List.map_append] <;> rfl⟩)
end
end Mini
namespace Mini
open PySem PySem.Spec PyProof.Rows L2
section
variable {op : MV → List MV → MHp → MQ → Prop} {o a b : ME} {r : MA} {s : MSt} {h : MHp} {Q E : MQ} {R : MR} {ks ws ks2 ws2 : List MV} {v u x y : MV} {q : NestedKey} {n ep : Nat}
theorem mDm_at : mDm op o r s h Q E = o s h (fun v h1 => (dctOf h1 v).isSome = true ∧ r s h1 (fun vs h2 => @oM' op v vs h2 ⟨Q⟩) E) E := rfl
theorem getM2_i (hd : dctOf h v = some (ks, ws)) (hk : tkey u = some q) (hg : (dGet ks ws q).getD x = y) (k : Q y h) : @oM' getM2 v [u, x] h ⟨Q⟩ := ⟨u, x, ks, ws, q, rfl, hd, hk, by rw [hg]; exact k⟩
theorem getM1_i (hd : dctOf h v = some (ks, ws)) (hk : tkey u = some q) (hg : (dGet ks ws q).getD .non = y) (k : Q y h) : @oM' getM1 v [u] h ⟨Q⟩ := ⟨u, ks, ws, q, rfl, hd, hk, by rw [hg]; exact k⟩
theorem listD_i (hd : dctOf h v = some (ks, ws)) (k : Q (.fl ks) h) : @oN listDM [v] h ⟨Q⟩ := ⟨v, ks, ws, rfl, hd, k⟩
end
section
variable {α : Type} {ek : α → MV} {k : α → NestedKey}
theorem key_of (hk : ∀ a, tkey (ek a) = some (k a)) (a : α) : (ek a).key = some (k a) := by
  obtain ⟨_, _, _, _, e, _⟩ := tkey_some (hk a)
  exact e
theorem dGet_dec [DecidableEq α] (hk : ∀ a, tkey (ek a) = some (k a)) (inj : ∀ a b, k a = k b → a = b) (F : α → MV) (a : α) : ∀ as : List α, dGet (as.map ek) (as.map F) (k a) = if a ∈ as then some (F a) else none
  | [] => rfl
  | b :: as => by
    rw [List.map_cons, List.map_cons]
    unfold dGet
    rw [key_of hk b, dGet_dec hk inj F a as]
    by_cases h : b = a
    · subst h
      rw [if_pos rfl, if_pos List.mem_cons_self]
    · rw [if_neg (fun e => h (inj _ _ (by injection e)))]
      have : a ∈ b :: as ↔ a ∈ as := by
        rw [List.mem_cons]
        exact ⟨fun z => z.elim (fun e => absurd e.symm h) id, .inr⟩
      by_cases h2 : a ∈ as
      · rw [if_pos h2, if_pos (this.mpr h2)]
      · rw [if_neg h2, if_neg fun z => h2 (this.mp z)]
theorem dPutV_dec [DecidableEq α] (hk : ∀ a, tkey (ek a) = some (k a)) (inj : ∀ a b, k a = k b → a = b) (F : α → MV) (a : α) (x : MV) : ∀ as : List α, dPutV (as.map ek) (as.map F) (k a) x = as.map fun b => if b = a then x else F b
  | [] => rfl
  | b :: as => by
    rw [List.map_cons, List.map_cons, List.map_cons]
    unfold dPutV
    rw [key_of hk b, dPutV_dec hk inj F a x as]
    by_cases h : b = a
    · rw [if_pos h, if_pos (by rw [h])]
    · rw [if_neg h, if_neg (fun e => h (inj _ _ (by injection e)))]
end
end Mini
namespace Lw
open PySem PySem.Spec PyProof.Rows L2 Mini PySem.W
abbrev Gt := List P2 × (P2 → Int)
def kv (p : P2) : MV := .tup [pr2 p.1, pr2 p.2]
def kk (p : P2) : NestedKey := .tup [.tup [.num p.1.1, .num p.1.2], .tup [.num p.2.1, .num p.2.2]]
theorem tk_kv (p : P2) : tkey (kv p) = some (kk p) := rfl
theorem kk_inj (p q : P2) (h : kk p = kk q) : p = q := by
  obtain ⟨⟨a, b⟩, c, d⟩ := p
  obtain ⟨⟨a', b'⟩, c', d'⟩ := q
  simp only [kk, NestedKey.tup.injEq, List.cons.injEq, NestedKey.num.injEq, and_true] at h
  obtain ⟨⟨rfl, rfl⟩, rfl, rfl⟩ := h
  rfl
def kG (z : Gt) : List MV := z.1.map kv
def vG (z : Gt) : List MV := z.1.map fun p => MV.int (z.2 p)
def gG (z : Gt) : GF := fun p => if p ∈ z.1 then some (z.2 p) else none
def setG (z : Gt) (p : P2) (d : Int) : Gt := (if p ∈ z.1 then z.1 else z.1 ++ [p], fun x => if x = p then d else z.2 x)
theorem has_G {z : Gt} {p : P2} : dHas (kG z) (kk p) = (gG z p).isSome := by
  unfold kG gG
  rw [dHas_map tk_kv kk_inj]
  by_cases h : p ∈ z.1
  · simp [h]
  · simp [h]
theorem get_G {z : Gt} {p : P2} : dGet (kG z) (vG z) (kk p) = (gG z p).map MV.int := by
  unfold kG vG gG
  rw [dGet_dec tk_kv kk_inj (fun p => .int (z.2 p))]
  split <;> rfl
theorem put_kG {z : Gt} {p : P2} {d : Int} : dPutK (kG z) (kv p) (kk p) = kG (setG z p d) := by
  have e := has_G (z := z) (p := p)
  unfold kG gG at e
  unfold kG dPutK setG
  rw [e]
  by_cases h : p ∈ z.1
  · simp only [if_pos h, Option.isSome_some, if_true]
  · simp only [if_neg h, Option.isSome_none, List.map_append, List.map_cons, List.map_nil]
    rfl
theorem put_vG {z : Gt} {p : P2} {d : Int} : dPutW (kG z) (vG z) (kk p) (.int d) = vG (setG z p d) := by
  have e := has_G (z := z) (p := p)
  unfold kG gG at e
  unfold kG vG dPutW setG
  rw [e]
  by_cases h : p ∈ z.1
  · simp only [if_pos h, Option.isSome_some, if_true]
    rw [dPutV_dec tk_kv kk_inj (fun p => .int (z.2 p))]
    refine List.map_congr_left fun x _ => ?_
    by_cases e : x = p
    · rw [if_pos e, if_pos e]
    · rw [if_neg e, if_neg e]
  · simp only [if_neg h, Option.isSome_none, List.map_append, List.map_cons, List.map_nil, if_pos, Bool.false_eq_true, if_false]
    congr 1
    refine List.map_congr_left fun x hx => ?_
    rw [if_neg (fun e : x = p => h (e ▸ hx))]
theorem gG_set {z : Gt} {p : P2} {d : Int} : gG (setG z p d) = fun x => if x = p then some d else gG z x := by
  funext x
  unfold gG setG
  by_cases hx : x = p
  · subst hx
    simp only [if_pos]
    by_cases h : x ∈ z.1
    · rw [if_pos h, if_pos h]
    · rw [if_neg h, if_pos (by simp)]
  · simp only [if_neg hx]
    by_cases h : p ∈ z.1
    · rw [if_pos h]
    · rw [if_neg h]
      by_cases h2 : x ∈ z.1
      · rw [if_pos h2, if_pos (by simp [h2])]
      · rw [if_neg h2, if_neg (by simp [h2, hx])]
structure GtOk (M : List J2) (z : Gt) : Prop where
  nd : z.1.Nodup
  mem : ∀ p ∈ z.1, p.1 ∈ M ∧ p.2 ∈ M
theorem GtOk.nil {M : List J2} : GtOk M ([], fun _ => 0) := ⟨List.nodup_nil, fun _ h => nomatch h⟩
theorem GtOk.set {M : List J2} {z : Gt} (h : GtOk M z) {p : P2} (h1 : p.1 ∈ M) (h2 : p.2 ∈ M) (d : Int) : GtOk M (setG z p d) := by
  unfold setG
  by_cases hp : p ∈ z.1
  · simp only [if_pos hp]
    exact ⟨h.nd, h.mem⟩
  · simp only [if_neg hp]
    refine ⟨List.nodup_append.mpr ⟨h.nd, by simp, fun a ha b hb e => ?_⟩, fun q hq => ?_⟩
    · rw [List.mem_singleton.mp hb] at e
      exact hp (e ▸ ha)
    · rcases List.mem_append.mp hq with q1 | q1
      · exact h.mem q q1
      · rw [List.mem_singleton.mp q1]
        exact ⟨h1, h2⟩
theorem ndup_le {α : Type} [DecidableEq α] : ∀ {xs ys : List α}, xs.Nodup → (∀ x ∈ xs, x ∈ ys) → xs.length ≤ ys.length
  | [], _, _, _ => Nat.zero_le _
  | x :: xs, ys, nd, hs => by
    have hx := hs x List.mem_cons_self
    have h := List.nodup_cons.mp nd
    have := ndup_le (ys := ys.erase x) h.2 fun y hy => (List.mem_erase_of_ne (fun e : y = x => h.1 (e ▸ hy))).mpr (hs y (List.mem_cons_of_mem _ hy))
    rw [List.length_erase_of_mem hx] at this
    have := List.length_pos_of_mem hx
    rw [List.length_cons]
    omega
theorem pairsM_len {M : List J2} : (pairsM M).length = M.length * M.length := by
  unfold pairsM
  rw [List.length_flatMap]
  simp only [List.length_map]
  rw [List.map_const']
  simp
theorem GtOk.len {M : List J2} {z : Gt} (h : GtOk M z) (hl : M.length ≤ 16) : z.1.length ≤ 256 := by
  have := ndup_le (ys := pairsM M) h.nd fun p hp => mem_pairsM.mpr (h.mem p hp)
  rw [pairsM_len] at this
  have := Nat.mul_le_mul hl hl
  omega
def shG (z : Gt) (p : P2) (d : Int) : Gt := if (gG z p).getD (d + 1) > d then setG z p d else z
theorem gG_sh {z : Gt} {p : P2} {d : Int} : gG (shG z p d) = relx (gG z) p d := by
  unfold shG relx
  funext x
  by_cases hx : x = p
  · subst hx
    cases hg : gG z x with
    | none =>
      rw [if_pos (show (none : Option Int).getD (d + 1) > d by show d + 1 > d; omega), gG_set, if_pos rfl]
      simp
    | some e =>
      by_cases he : e > d
      · rw [if_pos (show (some e).getD (d + 1) > d from he), gG_set, if_pos rfl]
        simp only [if_pos]
        rw [show min d e = d by omega]
      · rw [if_neg (show ¬ (some e).getD (d + 1) > d from he), hg, if_pos rfl]
        simp only
        rw [show min d e = e by omega]
  · rw [if_neg hx]
    split
    · rw [gG_set]; exact if_neg hx
    · rfl
theorem GtOk.sh {M : List J2} {z : Gt} (h : GtOk M z) {p : P2} (h1 : p.1 ∈ M) (h2 : p.2 ∈ M) (d : Int) : GtOk M (shG z p d) := by
  unfold shG
  split
  · exact h.set h1 h2 d
  · exact h
theorem relx_eq {z : Gt} {p : P2} {d : Int} : gG (setG z p (match gG z p with | none => d | some e => min d e)) = relx (gG z) p d := by
  rw [gG_set]; rfl
abbrev gap3 (ss : List Int) (es : List T5) (n : Nat) (z : Gt) (ep : Nat) : MHp := [.ins 100 [plan ss es, .fl ((mrows 0 ss).map pr2), .ref (n + 1), .ref (n + 2)], .lst ((tiesOf ss es).map wv), .dct ep (kG z) (vG z)]
theorem g3a {h : MHp} {a b c : Cell} : (h ++ [a, b, c])[h.length]? = some a := by simp
theorem g3b {h : MHp} {a b c : Cell} : (h ++ [a, b, c])[h.length + 1]? = some b := by simp
theorem g3c {h : MHp} {a b c : Cell} : (h ++ [a, b, c])[h.length + 2]? = some c := by simp
theorem s3c {h : MHp} {a b c d : Cell} : (h ++ [a, b, c]).set (h.length + 2) d = h ++ [a, b, d] := by simp
theorem shorten_ok {ss : List Int} {es : List T5} {h : MHp} {z : Gt} (hz : z.1.length ≤ 256) {ep : Nat} {p : P2} {d : Int} {Q E : MQ} (k : ∀ ep', Q .non (h ++ gap3 ss es h.length (shG z p d) ep')) :
    f_Gaps_shorten [.ref h.length, pr2 p.1, pr2 p.2, .int d] (h ++ gap3 ss es h.length z ep) Q E := by
  (unfold f_Gaps_shorten; refine Mini.mFn_i rfl ?_; unfold b_Gaps_shorten; refine Mini.kb_i ?_; walk_at "mx")
  (walk_at "mx"; simp only [mDm_at, mFld_at]; walk_at "mx")
  refine fldS_ref g3a rfl ?_
  refine ⟨by rw [dct_ref g3c] <;> rfl, ?_⟩
  walk_at "mx"
  walk_at "sd"
  refine getM2_i (x := .int (d + 1)) (q := kk p) (dct_ref g3c) (tk_kv p) (y := .int ((gG z p).getD (d + 1))) (by rw [get_G]; cases gG z p <;> rfl) ?_
  walk_at "mx"
  refine ifB_i (fun e => ?_) fun e => ?_
  · have e := of_decide_eq_true e
    walk_at "nx"
    (walk_at "mx"; simp only [gIxD_at, mFld_at]; walk_at "mx")
    refine fldS_ref g3a rfl ?_
    walk_at "mx"
    walk_at "sd"
    refine setD_i (k := kv p) (ks := kG z) (vs := vG z) g3c (tk_kv p) (by show (z.1.map kv).length < _; rw [List.length_map]; omega) fun ep' => ?_
    rw [put_kG (d := d), put_vG, s3c]
    have := k ep'
    unfold shG at this
    rw [if_pos e] at this
    exact this
  · have e := of_decide_eq_false e
    walk_at "mx"
    have := k ep
    unfold shG at this
    rw [if_neg e] at this
    exact this
end Lw
namespace Lw
open PySem PySem.Spec PyProof.Rows L2 Mini PySem.W
theorem LkOk.ties {ss : List Int} {es : List T5} (hs : SOk ss) (hw : ∀ w ∈ es, WOk ss w) : LkOk (mrows 0 ss) (tiesOf ss es) := by
  have key : ∀ w ∈ tiesOf ss es, JOk ss (j1 w) ∧ JOk ss (j2 w) ∧ 0 ≤ dst w := fun w h => by
    rcases mem_ties.mp h with h | h
    · exact ⟨(hw w h).a, (hw w h).b, (hw w h).d.1⟩
    · obtain ⟨i, s, h1, h2⟩ := mem_rows.mp h
      rw [Nat.zero_add] at h2
      have hi := (List.getElem?_eq_some_iff.mp h1).1
      have hsz := sz_at h1
      have hss := hs.s s (List.mem_of_getElem? h1)
      rcases mem_row.mp h2 with ⟨p, hp, rfl⟩ | rfl
      · refine ⟨⟨⟨by show (0 : Int) ≤ (i : Int); omega, by show (i : Int) < _; omega⟩, by show (0 : Int) ≤ (p : Int); omega, ?_⟩, ⟨⟨by show (0 : Int) ≤ (i : Int); omega, by show (i : Int) < _; omega⟩, by show (0 : Int) ≤ (p : Int) + 1; omega, ?_⟩, Int.le_refl _⟩
        · show (p : Int) < sz ss (i : Int)
          rw [hsz]; omega
        · show (p : Int) + 1 < sz ss (i : Int)
          rw [hsz]; omega
      · refine ⟨⟨⟨by show (0 : Int) ≤ (i : Int); omega, by show (i : Int) < _; omega⟩, by show (0 : Int) ≤ s - 1; omega, ?_⟩, ⟨⟨by show (0 : Int) ≤ (i : Int); omega, by show (i : Int) < _; omega⟩, Int.le_refl _, ?_⟩, by show (0 : Int) ≤ 1; omega⟩
        · show s - 1 < sz ss (i : Int)
          rw [hsz]; omega
        · show 0 < sz ss (i : Int)
          rw [hsz]; omega
  exact ⟨fun w h => mem_members.mpr (key w h).1, fun w h => mem_members.mpr (key w h).2.1, fun w h => (key w h).2.2⟩
theorem jobs16 {ss : List Int} (hs : SOk ss) : (mrows 0 ss).length ≤ 16 := by
  have := (mrows_bd ss 0 hs.s (by have := hs.len; omega)).2
  have := hs.len
  omega
theorem fold_pairs {β : Type} (f : β → P2 → β) (M N : List J2) (g : β) : (M.flatMap fun a => N.map fun b => (a, b)).foldl f g = M.foldl (fun g a => N.foldl (fun g b => f g (a, b)) g) g := by
  rw [List.foldl_flatMap]
  simp only [List.foldl_map]
abbrev inS (n : Nat) (x2 x3 x4 : Option MV) : MSt := [some (.ref n), none, x2, x3, x4, none, none]
theorem init_pair {ss : List Int} {es : List T5} (hs : SOk ss) {h : MHp} {z : Gt} (hz : GtOk (mrows 0 ss) z) {ep : Nat} {m a b : J2} (hm : m ∈ mrows 0 ss) (ha : a ∈ mrows 0 ss) (hb : b ∈ mrows 0 ss) {D : MD}
    (k : ∀ z' ep', GtOk (mrows 0 ss) z' → gG z' = pairF m (gG z) (a, b) → D.nx (inS h.length (some (pr2 m)) (some (pr2 a)) none) (h ++ gap3 ss es h.length z' ep')) :
    l_Gaps___init___2 (inS h.length (some (pr2 m)) (some (pr2 a)) (some (pr2 b))) (h ++ gap3 ss es h.length z ep) D := by
  obtain ⟨N, R, B, C, X⟩ := D
  have hl := hz.len (jobs16 hs)
  have no : (gG z (a, m) = none ∨ gG z (m, b) = none) → N (inS h.length (some (pr2 m)) (some (pr2 a)) none) (h ++ gap3 ss es h.length z ep) := fun e => by
    refine k z ep hz ?_
    unfold pairF
    rcases e with e | e
    · simp only [e]
    · simp only [e]
      cases gG z (a, m) <;> rfl
  unfold l_Gaps___init___2
  (walk_at "mx"; simp only [mFld_at]; walk_at "mx")
  walk_at "sd"
  refine fldS_ref g3a rfl ?_
  refine inD_i (dct_ref g3c) (tk_kv (a, m)) has_G ?_
  walk_at "mx"
  cases e1 : gG z (a, m) with
  | none =>
    (walk_at "mx"; simp only [Option.isSome_none]; walk_at "mx")
    walk_at "nx"
    exact (no (.inl e1))
  | some x =>
    (walk_at "mx"; simp only [Option.isSome_some]; walk_at "mx")
    (walk_at "mx"; simp only [mFld_at]; walk_at "mx")
    walk_at "sd"
    refine fldS_ref g3a rfl ?_
    refine inD_i (dct_ref g3c) (tk_kv (m, b)) has_G ?_
    walk_at "mx"
    cases e2 : gG z (m, b) with
    | none =>
      (walk_at "mx"; simp only [Option.isSome_none]; walk_at "mx")
      walk_at "nx"
      exact (no (.inr e2))
    | some y =>
      (walk_at "mx"; simp only [Option.isSome_some]; walk_at "mx")
      walk_at "kbi"
      (walk_at "mx"; simp only [mMeth_at]; walk_at "mx")
      refine ⟨isIns_ref g3a, ?_⟩
      (walk_at "mx"; simp only [mFld_at]; walk_at "mx")
      refine fldS_ref g3a rfl ?_
      walk_at "sd"
      refine ixD_i (dct_ref g3c) (tk_kv (a, m)) (by rw [get_G, e1]; rfl) ?_
      (walk_at "mx"; simp only [mFld_at]; walk_at "mx")
      refine fldS_ref g3a rfl ?_
      walk_at "sd"
      refine ixD_i (dct_ref g3c) (tk_kv (m, b)) (by rw [get_G, e2]; rfl) ?_
      walk_at "mx"
      refine call_i ?_
      refine shorten_ok (p := (a, b)) hl fun ep' => ?_
      walk_at "mx"
      refine (k _ ep' (hz.sh ha hb _) ?_)
      unfold pairF
      simp only [e1, e2]
      exact gG_sh
theorem init_row {ss : List Int} {es : List T5} (hs : SOk ss) {h : MHp} {z : Gt} (hz : GtOk (mrows 0 ss) z) {ep : Nat} {m a : J2} (hm : m ∈ mrows 0 ss) (ha : a ∈ mrows 0 ss) {D : MD}
    (k : ∀ z' ep', GtOk (mrows 0 ss) z' → gG z' = (mrows 0 ss).foldl (fun g b => pairF m g (a, b)) (gG z) → D.nx (inS h.length (some (pr2 m)) none none) (h ++ gap3 ss es h.length z' ep')) :
    l_Gaps___init___3 (inS h.length (some (pr2 m)) (some (pr2 a)) none) (h ++ gap3 ss es h.length z ep) D := by
  obtain ⟨N, R, B, C, X⟩ := D
  unfold l_Gaps___init___3
  (walk_at "mx"; simp only [mFld_at]; walk_at "mx")
  refine fldS_ref g3a rfl ?_
  walk_at "mx"
  refine loop_T (ea := pr2) (fun rest s h' => ∃ z' ep', s = inS h.length (some (pr2 m)) (some (pr2 a)) none ∧ h' = h ++ gap3 ss es h.length z' ep' ∧ GtOk (mrows 0 ss) z' ∧ (∀ b ∈ rest, b ∈ mrows 0 ss) ∧ rest.foldl (fun g b => pairF m g (a, b)) (gG z') = (mrows 0 ss).foldl (fun g b => pairF m g (a, b)) (gG z)) ⟨z, ep, rfl, rfl, hz, fun _ h => h, rfl⟩ (fun _ _ _ _ => okT_i) (fun s h' ⟨z', ep', e1, e2, hz', _, e3⟩ => ?_) fun b rest s h' K ⟨z', ep', e1, e2, hz', hb, e3⟩ hK => ?_
  · subst e1 e2
    exact k z' ep' hz' e3
  · subst e1 e2
    walk_at "mx"
    walk_at "kbi"
    refine init_pair hs hz' hm ha (hb b List.mem_cons_self) fun z2 ep2 hz2 e2 => hK _ _ ⟨z2, ep2, rfl, rfl, hz2, fun c hc => hb c (List.mem_cons_of_mem _ hc), ?_⟩
    rw [e2]
    exact e3
theorem init_mid {ss : List Int} {es : List T5} (hs : SOk ss) {h : MHp} {z : Gt} (hz : GtOk (mrows 0 ss) z) {ep : Nat} {m : J2} (hm : m ∈ mrows 0 ss) {D : MD}
    (k : ∀ z' ep', GtOk (mrows 0 ss) z' → gG z' = midF (mrows 0 ss) (gG z) m → D.nx (inS h.length none none none) (h ++ gap3 ss es h.length z' ep')) :
    l_Gaps___init___4 (inS h.length (some (pr2 m)) none none) (h ++ gap3 ss es h.length z ep) D := by
  obtain ⟨N, R, B, C, X⟩ := D
  have em : ∀ g, midF (mrows 0 ss) g m = (mrows 0 ss).foldl (fun g a => (mrows 0 ss).foldl (fun g b => pairF m g (a, b)) g) g := fun g => fold_pairs _ _ _ _
  rw [em] at k
  unfold l_Gaps___init___4
  (walk_at "mx"; simp only [mFld_at]; walk_at "mx")
  refine fldS_ref g3a rfl ?_
  walk_at "mx"
  refine loop_T (ea := pr2) (fun rest s h' => ∃ z' ep', s = inS h.length (some (pr2 m)) none none ∧ h' = h ++ gap3 ss es h.length z' ep' ∧ GtOk (mrows 0 ss) z' ∧ (∀ b ∈ rest, b ∈ mrows 0 ss) ∧ rest.foldl (fun g a => (mrows 0 ss).foldl (fun g b => pairF m g (a, b)) g) (gG z') = (mrows 0 ss).foldl (fun g a => (mrows 0 ss).foldl (fun g b => pairF m g (a, b)) g) (gG z)) ⟨z, ep, rfl, rfl, hz, fun _ h => h, rfl⟩ (fun _ _ _ _ => okT_i) (fun s h' ⟨z', ep', e1, e2, hz', _, e3⟩ => ?_) fun b rest s h' K ⟨z', ep', e1, e2, hz', hb, e3⟩ hK => ?_
  · subst e1 e2
    exact k z' ep' hz' e3
  · subst e1 e2
    walk_at "mx"
    walk_at "kbi"
    refine init_row hs hz' hm (hb b List.mem_cons_self) fun z2 ep2 hz2 e2 => hK _ _ ⟨z2, ep2, rfl, rfl, hz2, fun c hc => hb c (List.mem_cons_of_mem _ hc), ?_⟩
    rw [e2]
    exact e3
theorem init_link {ss : List Int} {es : List T5} (hs : SOk ss) {h : MHp} {z : Gt} (hz : GtOk (mrows 0 ss) z) {ep : Nat} {w : T5} (ha : j1 w ∈ mrows 0 ss) (hb : j2 w ∈ mrows 0 ss) {D : MD}
    (k : ∀ z' ep', GtOk (mrows 0 ss) z' → gG z' = relx (gG z) (j1 w, j2 w) (dst w) → D.nx [some (.ref h.length), none, none, none, none, none, none] (h ++ gap3 ss es h.length z' ep')) :
    l_Gaps___init___1 [some (.ref h.length), none, none, some (pr2 (j1 w)), some (pr2 (j2 w)), some (.int (dst w)), none] (h ++ gap3 ss es h.length z ep) D := by
  obtain ⟨N, R, B, C, X⟩ := D
  have hl := hz.len (jobs16 hs)
  unfold l_Gaps___init___1
  (walk_at "mx"; simp only [mMeth_at]; walk_at "mx")
  refine ⟨isIns_ref g3a, ?_⟩
  walk_at "mx"
  refine call_i ?_
  refine shorten_ok (p := (j1 w, j2 w)) hl fun ep' => ?_
  walk_at "mx"
  exact k _ ep' (hz.sh ha hb _) gG_sh
end Lw
namespace Lw
open PySem PySem.Spec PyProof.Rows L2 Mini

end Lw
namespace Lw
open PySem PySem.Spec PyProof.Rows L2 Mini

end Lw
namespace Lw
open PySem PySem.Spec PyProof.Rows L2 Mini PySem.W
end Lw
namespace Lw
open PySem PySem.Spec PyProof.Rows L2 Mini PySem.W
abbrev T4 : Type := Int × Int × Int × Int
def wv4 (p : T4) : MV := .tup [.tup [.int p.1, .int p.2.1], .tup [.int p.2.2.1, .int p.2.2.2]]
theorem wv_inj4 {p q : T4} (h : wv4 p = wv4 q) : p = q := by
  obtain ⟨a, b, c, d⟩ := p
  obtain ⟨a', b', c', d'⟩ := q
  simp only [wv4, MV.tup.injEq, List.cons.injEq, MV.int.injEq, and_true] at h
  obtain ⟨⟨h1, h2⟩, ⟨h3, h4⟩⟩ := h
  subst h1 h2 h3 h4
  rfl
abbrev leW4 (p q : T4) : Bool := sLe (wv4 p) (wv4 q)
theorem lewv_total4 : TotalLe leW4 := by
  have h := sortLe_total (listOrd itemOrd) false (fun p : T4 => keyToks (wv4 p).dat)
  exact h
theorem lewv_anti4 {p q : T4} (h1 : leW4 p q = true) (h2 : leW4 q p = true) : p = q := by
  have e1 : PyProof.Rows.lexLt itemOrd (keyToks (wv4 q).dat) (keyToks (wv4 p).dat) = false := by
    have : (!PyProof.Rows.lexLt itemOrd (keyToks (wv4 q).dat) (keyToks (wv4 p).dat)) = true := h1
    simpa using this
  have e2 : PyProof.Rows.lexLt itemOrd (keyToks (wv4 p).dat) (keyToks (wv4 q).dat) = false := by
    have : (!PyProof.Rows.lexLt itemOrd (keyToks (wv4 p).dat) (keyToks (wv4 q).dat)) = true := h2
    simpa using this
  have e := lex_total _ _ e2 e1
  obtain ⟨a, b, c, d⟩ := p
  obtain ⟨a', b', c', d'⟩ := q
  simp [wv4, MV.dat, datAll, keyToks, keyToksAll] at e
  obtain ⟨q1, q2, q3, q4⟩ := e
  subst q1 q2 q3 q4
  rfl
def srt4 (es : List T4) : List T4 := es.mergeSort leW4
theorem srt_perm4 {es fs : List T4} (p : es.Perm fs) : srt4 es = srt4 fs :=
  eq_of_sorted (le := fun a b => leW4 a b = true) (fun a b => lewv_anti4) (((List.mergeSort_perm es leW4).trans p).trans (List.mergeSort_perm fs leW4).symm) (sort_pairwise lewv_total4 es) (sort_pairwise lewv_total4 fs)

def asc4 (es : List T4) : List T4 := srt4 es.eraseDups
theorem nodup_eraseDups4 (es : List T4) : es.eraseDups.Nodup := by
  have key : ∀ (n : Nat) (es : List T4), es.length ≤ n → es.eraseDups.Nodup := by
    intro n
    induction n with
    | zero => intro es h; rw [List.eq_nil_of_length_eq_zero (Nat.le_zero.mp h)]; simp
    | succ n ih =>
      intro es h
      cases es with
      | nil => simp
      | cons a es =>
        rw [List.eraseDups_cons, List.nodup_cons]
        refine ⟨fun hm => ?_, ih _ (Nat.le_trans (List.length_filter_le _ _) (by simpa using h))⟩
        have := List.mem_eraseDups.mp hm
        simp at this
  exact key es.length es (Nat.le_refl _)
end Lw
namespace Lw
open PySem PySem.Spec PyProof.Rows L2 Mini PySem.W
def waitB4 (ss : List Int) (v : MV) : Bool := match v with
  | .tup [a, b] => memberB ss a && (memberB ss b && (!(hd a == hd b)))
  | _ => false
def sizes4B (v : MV) : Bool := match v with
  | .tup xs => (decide (1 ≤ xs.length) && decide (xs.length ≤ 4)) && xs.all fun x => wholeB x 0 6
  | _ => false
def ascB4 (ws : List MV) : Prop := ∃ es : List T4, ws = es.map wv4 ∧ es = asc4 es
open Classical in
noncomputable def plan4B (v : MV) : Bool := match v with
  | .tup [.tup xs, .tup ws] => sizes4B (.tup xs) && (decide (ws.length ≤ 24) && (ws.all (waitB4 (xs.map toI)) && decide (ascB4 ws)))
  | _ => false
theorem wv4_map_inj : ∀ {es fs : List T4}, es.map wv4 = fs.map wv4 → es = fs
  | [], [], _ => rfl
  | [], _ :: _, e => by simp at e
  | _ :: _, [], e => by simp at e
  | a :: es, f :: fs, e => by
    simp only [List.map_cons, List.cons.injEq] at e
    rw [wv_inj4 e.1, wv4_map_inj e.2]
theorem ascB4_iff {es : List T4} : ascB4 (es.map wv4) ↔ es = asc4 es := by
  refine ⟨fun ⟨fs, e, h⟩ => ?_, fun h => ⟨es, rfl, h⟩⟩
  rw [wv4_map_inj e]
  exact h
theorem plan4B_of {ss : List Int} {ws : List MV} : plan4B (.tup [.tup (ss.map .int), .tup ws]) = (sizes4B (.tup (ss.map .int)) && (decide (ws.length ≤ 24) && (ws.all (waitB4 ss) && @decide (ascB4 ws) (Classical.propDecidable _)))) := by
  show (sizes4B (.tup (ss.map .int)) && (decide (ws.length ≤ 24) && (ws.all (waitB4 ((ss.map MV.int).map toI)) && _))) = _
  rw [sizes_back]
end Lw
namespace Lw
open PySem PySem.Spec PyProof.Rows L2 Mini

end Lw
namespace Lw
open PySem PySem.Spec PyProof.Rows L2 Mini PySem.W
def NOk (ss ns : List Int) : Prop := ns.length = ss.length ∧ ∀ n ∈ ns, 0 ≤ n ∧ n ≤ 16777216
theorem NOk.at {ss ns : List Int} (h : NOk ss ns) {q : Int} (h0 : 0 ≤ q) (h1 : q < ss.length) : 0 ≤ sz ns q ∧ sz ns q ≤ 16777216 := by
  have hl : q.toNat < ns.length := by have := h.1; omega
  unfold Lw.sz
  rw [List.getD_eq_getElem?_getD, List.getElem?_eq_getElem hl]
  exact h.2 _ (List.getElem_mem hl)
end Lw
namespace Lw
open PySem PySem.Spec PyProof.Rows L2 Mini PySem.W
end Lw
namespace Lw
open PySem PySem.Spec PyProof.Rows L2 Mini PySem.W
end Lw
namespace Lw
open PySem PySem.Spec PyProof.Rows L2 Mini PySem.W
theorem shb_int {i : Int} (h0 : -(2 ^ 100) ≤ i) (h1 : i ≤ 2 ^ 100) : (MV.int i).shb = true := by
  have h : i.natAbs < 2 ^ 101 := by omega
  have h2 : i.natAbs.log2 < 1920 := by
    by_cases z : i.natAbs = 0
    · rw [z]; decide
    · have := (Nat.log2_lt z).mpr h
      omega
  simp only [MV.shb]
  exact decide_eq_true h2
theorem ga_ints2 {ns : List Int} (h : ∀ n ∈ ns, -(2 ^ 100) ≤ n ∧ n ≤ 2 ^ 100) : GA (ns.map MV.int) (5000 * ns.length) 0 := by
  have hz : ∀ ss : List Int, szAll (ss.map MV.int) ≤ 5000 * ss.length ∧ depAll (ss.map MV.int) = 0 := fun ss => by
    induction ss with
    | nil => simp [szAll, depAll]
    | cons s ss ih => simp only [List.map_cons, szAll, depAll, MV.sz, MV.dep, List.length_cons]; have := ih.1; have := ih.2; omega
  exact ⟨sok_ints ns, shbAll_iff.mpr fun x hx => by
    obtain ⟨s, hs, rfl⟩ := List.mem_map.mp hx
    exact shb_int (h s hs).1 (h s hs).2, Nat.le_of_eq (hz ns).2, (hz ns).1⟩
theorem GV.gd {v : MV} {S d : Nat} (g : GV v S d) (h : S ≤ 16000000) (h' : d ≤ 50) : Gd v := ⟨g.sok, g.shb, Nat.le_trans g.dep h', Nat.le_trans g.sz h⟩
theorem GA.deep {xs : List MV} {S d S' d' : Nat} (g : GA xs S d) (h : S ≤ S') (h' : d ≤ d') : GA xs S' d' := ⟨g.sok, g.shb, Nat.le_trans g.dep h', Nat.le_trans g.sz h⟩
theorem ga_ws {ss : List Int} {es : List T5} (hs : SOk ss) (hw : ∀ w ∈ es, WOk ss w) : GA (es.map wv) (9633 * es.length) 2 :=
  ⟨wv_sok_all _, shbAll_iff.mpr fun x hx => by obtain ⟨p, hp, rfl⟩ := List.mem_map.mp hx; exact (hw p hp).small hs, wv_depAll _, wv_szAll es⟩
theorem plan_gv {ss : List Int} {es : List T5} (P : POk ss es) : GV (plan ss es) 200000 4 := by
  have l4 := P.s.len
  have l12 := P.len
  have g1 : GA (ss.map MV.int) 20000 0 := (ga_ints2 fun n hn => by have := P.s.s n hn; omega).deep (by omega) (Nat.le_refl _)
  have g2 : GA (es.map wv) 115596 2 := (ga_ws P.s P.w).deep (by omega) (Nat.le_refl _)
  have x1 := GA.one (g1.tup.mono (d' := 3) (Nat.le_refl _) (by omega))
  have x2 := GA.one g2.tup
  exact ((x1.app x2).tup).mono (by omega) (by omega)
theorem plan_gd {ss : List Int} {es : List T5} (P : POk ss es) : Gd (plan ss es) := (plan_gv P).gd (by omega) (by omega)
theorem GA.filter {xs : List MV} {S d : Nat} (g : GA xs S d) (p : MV → Bool) : GA (xs.filter p) S d := by
  refine g.sub (fun y hy => (List.mem_filter.mp hy).1) (Nat.le_trans ?_ g.sz)
  induction xs with
  | nil => simp
  | cons x xs ih =>
    have g' : GA xs (szAll xs) d := ⟨by have := g.sok; simp only [sokAll, Bool.and_eq_true] at this; exact this.2, by have := g.shb; simp only [shbAll, Bool.and_eq_true] at this; exact this.2, by have := g.dep; simp only [depAll] at this; omega, Nat.le_refl _⟩
    have ih' : szAll (xs.filter p) ≤ szAll xs := by
      clear ih g g'
      induction xs with
      | nil => simp
      | cons y ys ih => rw [List.filter_cons]; split <;> simp only [szAll] <;> omega
    rw [List.filter_cons]
    split <;> simp only [szAll] <;> omega
theorem ga_of {S d : Nat} : ∀ {xs : List MV}, (∀ x ∈ xs, GV x S d) → GA xs ((S + 2) * xs.length) d
  | [], _ => ⟨rfl, rfl, by simp [depAll], by simp [szAll]⟩
  | x :: xs, h => by
    have g := h x List.mem_cons_self
    have i := ga_of fun y hy => h y (List.mem_cons_of_mem _ hy)
    refine ⟨by simp only [sokAll, g.sok, i.sok, Bool.and_self], by simp only [shbAll, g.shb, i.shb, Bool.and_self], by have := g.dep; have := i.dep; simp only [depAll]; omega, ?_⟩
    have := g.sz
    have := i.sz
    simp only [szAll, List.length_cons, Nat.mul_add, Nat.mul_one]
    omega
end Lw
namespace Lw
open PySem PySem.Spec PyProof.Rows L2 Mini PySem.W
structure SP (ss : List Int) : Prop where
  ne : ss ≠ []
  len : ss.length ≤ 4
  s : ∀ s ∈ ss, 0 ≤ s ∧ s ≤ 6
structure W4 (ss : List Int) (w : T4) : Prop where
  a : JOk ss (w.1, w.2.1)
  b : JOk ss (w.2.2.1, w.2.2.2)
  ne : w.1 ≠ w.2.2.1
abbrev planP (ss : List Int) (es : List T4) : MV := .tup [.tup (ss.map .int), .tup (es.map wv4)]
structure PP (ss : List Int) (es : List T4) : Prop where
  s : SP ss
  w : ∀ w ∈ es, W4 ss w
  asc : es = asc4 es
  len : es.length ≤ 24
theorem asc4_mem {es : List T4} {w : T4} : w ∈ asc4 es ↔ w ∈ es := by
  unfold asc4
  rw [show (w ∈ srt4 es.eraseDups ↔ w ∈ es.eraseDups) from (List.mergeSort_perm _ _).mem_iff]
  exact List.mem_eraseDups
theorem asc4_nd (es : List T4) : (asc4 es).Nodup := (List.mergeSort_perm es.eraseDups leW4).nodup_iff.mpr (nodup_eraseDups4 es)
theorem eraseDups4_nd : ∀ {es : List T4}, es.Nodup → es.eraseDups = es
  | [], _ => rfl
  | a :: es, h => by
    rw [List.nodup_cons] at h
    rw [List.eraseDups_cons]
    have e : es.filter (fun b => !b == a) = es := List.filter_eq_self.mpr fun b hb => by
      have : b ≠ a := fun e => h.1 (e ▸ hb)
      simpa using this
    rw [e, eraseDups4_nd h.2]
theorem asc4_asc (es : List T4) : asc4 (asc4 es) = asc4 es := by
  have e : asc4 (asc4 es) = srt4 (asc4 es) := by
    show srt4 (asc4 es).eraseDups = _
    rw [eraseDups4_nd (asc4_nd es)]
  rw [e]
  exact srt_perm4 (List.mergeSort_perm es.eraseDups leW4)
theorem eraseDups4_len : ∀ (n : Nat) (es : List T4), es.length ≤ n → es.eraseDups.length ≤ es.length := by
  intro n
  induction n with
  | zero => intro es h; rw [List.eq_nil_of_length_eq_zero (Nat.le_zero.mp h)]; simp
  | succ n ih =>
    intro es h
    cases es with
    | nil => simp
    | cons a es =>
      rw [List.eraseDups_cons, List.length_cons, List.length_cons]
      have h1 := List.length_filter_le (fun b => !b == a) es
      have h2 := ih (es.filter fun b => !b == a) (by simp at h; omega)
      omega
theorem asc4_len (es : List T4) : (asc4 es).length ≤ es.length := by
  have h : (asc4 es).length = es.eraseDups.length := (List.mergeSort_perm es.eraseDups leW4).length_eq
  rw [h]
  exact eraseDups4_len es.length es (Nat.le_refl _)
theorem PP.of {ss : List Int} {ws : List T4} (hs : SP ss) (hw : ∀ w ∈ ws, W4 ss w) (hl : ws.length ≤ 24) : PP ss (asc4 ws) :=
  ⟨hs, fun w h => hw w (asc4_mem.mp h), (asc4_asc ws).symm, Nat.le_trans (asc4_len ws) hl⟩
theorem W4.waitB {ss : List Int} {w : T4} (h : W4 ss w) : waitB4 ss (wv4 w) = true := by
  show (Lw.memberB ss (pr2 (w.1, w.2.1)) && (Lw.memberB ss (pr2 (w.2.2.1, w.2.2.2)) && (!(w.1 == w.2.2.1)))) = true
  rw [h.a.memberB, h.b.memberB]
  have e1 : (w.1 == w.2.2.1) = false := by simpa using h.ne
  rw [e1]
  rfl
theorem SP.sizesB {ss : List Int} (h : SP ss) : sizes4B (.tup (ss.map .int)) = true := by
  have h0 : 1 ≤ ss.length := List.length_pos_iff.mpr h.ne
  show ((decide (1 ≤ (ss.map MV.int).length) && decide ((ss.map MV.int).length ≤ 4)) && (ss.map MV.int).all fun x => wholeB x 0 6) = true
  rw [List.length_map, decide_eq_true h0, decide_eq_true h.len]
  simp only [Bool.true_and, List.all_map, List.all_eq_true]
  intro s hs
  have := h.s s hs
  show (decide (0 ≤ s) && decide (s ≤ 6)) = true
  rw [decide_eq_true this.1, decide_eq_true this.2]
  rfl
theorem PP.planB {ss : List Int} {es : List T4} (h : PP ss es) : plan4B (planP ss es) = true := by
  rw [plan4B_of, h.s.sizesB, List.length_map, decide_eq_true h.len]
  have e1 : (es.map wv4).all (waitB4 ss) = true := by
    rw [List.all_map, List.all_eq_true]
    exact fun w hw => (h.w w hw).waitB
  rw [e1, @decide_eq_true _ (Classical.propDecidable _) (ascB4_iff.mpr h.asc)]
  rfl
theorem mrows_bdP : ∀ (ss : List Int) (k : Nat), (∀ s ∈ ss, 0 ≤ s ∧ s ≤ 6) → (mrows k ss).length ≤ 6 * ss.length
  | [], _, _ => by simp [mrows]
  | s :: ss, k, h => by
    have hs := h s List.mem_cons_self
    have b := mrows_bdP ss (k + 1) (fun t ht => h t (List.mem_cons_of_mem _ ht))
    rw [mrows, List.length_append, mrow_len, List.length_cons]
    omega
theorem SP.bd {ss : List Int} (h : SP ss) : (mrows 0 ss).length ≤ 24 := by
  have := mrows_bdP ss 0 h.s
  have := h.len
  omega
theorem jobs_bodyP : b__law_jobs =
    (mSeq (mAsg (mLstC aNil) (gN 1))
    (mSeq (mFor (iEnum (aCons (mVar 0) aNil)) (gT (gsCons (gN 2) (gsCons (gN 3) gsNil)) 2) mb)
    (mRet (mVar 1)))) := rfl
theorem jobs_loopP {h : MHp} {D : MD} {p z : Option MV} : ∀ (ss : List Int) (k : Nat) (fs : List (Int × Int)) (x y : Option MV), fs.length + 10 * ss.length ≤ 1000 → (∀ s ∈ ss, 0 ≤ s ∧ s ≤ 6) →
    (∀ x y, D.nx [p, some (.ref h.length), x, y, z] (h ++ [.lst ((fs ++ mrows k ss).map pr2)])) →
    forM (fun _ => True) (gT (gsCons (gN 2) (gsCons (gN 3) gsNil)) 2) mb (enumK k (ss.map .int)) [p, some (.ref h.length), x, y, z] (h ++ [.lst (fs.map pr2)]) D
  | [], k, fs, x, y, _, _, hn => by
    have := hn x y
    rw [mrows, List.append_nil] at this
    exact ⟨trivial, this⟩
  | s :: ss, k, fs, x, y, hl, hs, hn => by
    have ih := jobs_loopP (h := h) (D := D) (p := p) (z := z) ss (k + 1) (fs ++ mrow k s)
    have hs1 := hs s List.mem_cons_self
    have hr := mrow_len (k := k) (s := s)
    rw [List.length_cons] at hl
    have good : ∀ x y, forM (fun _ => True) (gT (gsCons (gN 2) (gsCons (gN 3) gsNil)) 2) mb (enumK (k + 1) (ss.map .int)) [p, some (.ref h.length), x, y, z] (h ++ [.lst ((fs ++ mrow k s).map pr2)]) D := fun x y => by
      refine ih x y (by rw [List.length_append]; omega) (fun t ht => hs t (List.mem_cons_of_mem _ ht)) fun x y => ?_
      have := hn x y
      rw [mrows, ← List.append_assoc] at this
      exact this
    clear ih hn
    have e : enumK k ((s :: ss).map .int) = .tup [.int (k : Nat), .int s] :: enumK (k + 1) (ss.map .int) := by
      unfold enumK
      rw [List.map_cons, List.zipIdx_cons, List.map_cons]
    rw [e]
    refine ⟨trivial, ?_⟩
    have gk : ∀ K : MSt → MHp → Prop, (∀ x y, K [p, some (.ref h.length), x, y, z] (h ++ [.lst ((fs ++ mrow k s).map pr2)])) → gT (gsCons (gN 2) (gsCons (gN 3) gsNil)) 2 (.tup [.int (k : Nat), .int s]) [p, some (.ref h.length), x, y, z] (h ++ [.lst (fs.map pr2)]) (fun s1 h1 => mb s1 h1 { D with nx := K, ct := K, bk := D.nx }) (fun e h' => D.ex e [p, some (.ref h.length), x, y, z] h') := by
      clear good
      intro K good
      simp only [mb, getK, setK, Option.isSome_some, eqM_int, neM_int, kit_ii, kit_bi, kit_ni, kit_si, kit_ti, kit_li, kit_ib, kit_bb, kit_tt, kit_it, kit_bt, kit_nt, kit_st, kit_lt, atI0, atI1, atI2, ixN30, ixN31, ixN32, mFn, startM, mSeq, mIf, mAsg, mRet, mRetN, mDrop, mNext, gN, gT, gsCons, gsNil, gIx, mVar, mInt, mBl, mNon, mStr, mC, mOp1, mOp2, int2, plusM, addM, mulM2, negM, isM, isNotM, isNotM2, isM2, mAug, rg1, rg2, mLstRg, mLstRgC, mTupRg, isNoneM, tV, tNo, tAn, Mini.tOr, mAnd, mOr, mNot, Mini.notM, Bool.not_false, Bool.not_true, Bool.false_eq_true, if_false, if_true, reduceIte, mIfE, aNil, aCons, mTup, mLst, mLstC, mSl, slM, pNo, pAt, mB, mCall, lenM, listM, listMC, tupleM, intM, boolM, ixM, ixV, seqOf, lstOf, Mini.cellOf, mPar, mPar3, mLc, mLcC, mFor, iSeq, Mini.iRng1, Mini.iRng2, Mini.iEnum, Mini.iZip, mIsi, isiM, tyM, mMt, mMt0, appendM, extendM, popM, catF, catF.lstM, mChain, tAll, wipeM, mdK, Prod.mk.injEq, and_assoc, List.map_cons, List.map_nil, List.length_cons, List.length_nil, List.replicate, List.cons_append, List.nil_append, List.getElem?_cons_zero, List.getElem?_cons_succ, List.set_cons_zero, List.set_cons_succ, Option.some.injEq, exists_eq_left', exists_eq_left, true_and, and_true, List.cons.injEq, MV.int.injEq, MV.bl.injEq, MV.tup.injEq, MV.fl.injEq, MV.str.injEq, MV.ref.injEq, Option.bind_some, exists_and_left, exists_const, Nat.sub_self, Nat.reduceSub, Nat.reduceAdd, List.append_nil, List.nil_append, List.length_map, Nat.add_zero, Nat.zero_add]
      refine ⟨by omega, by omega, ?_⟩
      refine comp_pure (f := fun x => some (pr2 ((k : Int), toI x))) trivial _ [] ?_ (fun x hx' acc K ha hk => ?_) ?_
      · unfold rng
        rw [sizeLine_eq, List.length_map, List.length_range, List.length_nil]
        omega
      · unfold rng at hx'
        obtain ⟨i, _, rfl⟩ := List.mem_map.mp hx'
        simp only [tAll, getK, setK, Option.isSome_some, eqM_int, neM_int, kit_ii, kit_bi, kit_ni, kit_si, kit_ti, kit_li, kit_ib, kit_bb, kit_tt, kit_it, kit_bt, kit_nt, kit_st, kit_lt, atI0, atI1, atI2, ixN30, ixN31, ixN32, mFn, startM, mSeq, mIf, mAsg, mRet, mRetN, mDrop, mNext, gN, gT, gsCons, gsNil, gIx, mVar, mInt, mBl, mNon, mStr, mC, mOp1, mOp2, int2, plusM, addM, mulM2, negM, isM, isNotM, isNotM2, isM2, mAug, rg1, rg2, mLstRg, mLstRgC, mTupRg, isNoneM, tV, tNo, tAn, Mini.tOr, mAnd, mOr, mNot, Mini.notM, Bool.not_false, Bool.not_true, Bool.false_eq_true, if_false, if_true, reduceIte, mIfE, aNil, aCons, mTup, mLst, mLstC, mSl, slM, pNo, pAt, mB, mCall, lenM, listM, listMC, tupleM, intM, boolM, ixM, ixV, seqOf, lstOf, Mini.cellOf, mPar, mPar3, mLc, mLcC, mFor, iSeq, Mini.iRng1, Mini.iRng2, Mini.iEnum, Mini.iZip, mIsi, isiM, tyM, mMt, mMt0, appendM, extendM, popM, catF, catF.lstM, mChain, tAll, wipeM, mdK, Prod.mk.injEq, and_assoc, List.map_cons, List.map_nil, List.length_cons, List.length_nil, List.replicate, List.cons_append, List.nil_append, List.getElem?_cons_zero, List.getElem?_cons_succ, List.set_cons_zero, List.set_cons_succ, Option.some.injEq, exists_eq_left', exists_eq_left, true_and, and_true, List.cons.injEq, MV.int.injEq, MV.bl.injEq, MV.tup.injEq, MV.fl.injEq, MV.str.injEq, MV.ref.injEq, Option.bind_some, exists_and_left, exists_const, Nat.sub_self, Nat.reduceSub, Nat.reduceAdd, List.append_nil, List.nil_append, List.length_map, Nat.add_zero, Nat.zero_add]
        exact ⟨smallLine (by decide), ha, hk⟩
      · rw [List.nil_append, rng_mrow]
        refine ⟨h.length, fs.map pr2, by rw [getK], _, .inl rfl, ?_, ?_⟩
        · rw [sizeLine_eq]
          simp only [List.length_map, hr]
          omega
        · rw [setK]
          have := good (some (.int k)) (some (.int s))
          rw [List.map_append] at this
          exact this
    exact gk _ good
theorem jobs_drawP {ss : List Int} (hl : ss.length ≤ 4) (hs : ∀ s ∈ ss, 0 ≤ s ∧ s ≤ 6) {h : MHp} (hh : Hh h) {Q E : MQ} (k : Q (.fl ((mrows 0 ss).map pr2)) h) : f__law_jobs [.tup (ss.map .int)] h Q E := by
  simp only [f__law_jobs, jobs_bodyP, getK, setK, Option.isSome_some, eqM_int, neM_int, kit_ii, kit_bi, kit_ni, kit_si, kit_ti, kit_li, kit_ib, kit_bb, kit_tt, kit_it, kit_bt, kit_nt, kit_st, kit_lt, atI0, atI1, atI2, ixN30, ixN31, ixN32, mFn, startM, mSeq, mIf, mAsg, mRet, mRetN, mDrop, mNext, gN, gT, gsCons, gsNil, gIx, mVar, mInt, mBl, mNon, mStr, mC, mOp1, mOp2, int2, plusM, addM, mulM2, negM, isM, isNotM, isNotM2, isM2, mAug, rg1, rg2, mLstRg, mLstRgC, mTupRg, isNoneM, tV, tNo, tAn, Mini.tOr, mAnd, mOr, mNot, Mini.notM, Bool.not_false, Bool.not_true, Bool.false_eq_true, if_false, if_true, reduceIte, mIfE, aNil, aCons, mTup, mLst, mLstC, mSl, slM, pNo, pAt, mB, mCall, lenM, listM, listMC, tupleM, intM, boolM, ixM, ixV, seqOf, lstOf, Mini.cellOf, mPar, mPar3, mLc, mLcC, mFor, iSeq, Mini.iRng1, Mini.iRng2, Mini.iEnum, Mini.iZip, mIsi, isiM, tyM, mMt, mMt0, appendM, extendM, popM, catF, catF.lstM, mChain, tAll, wipeM, mdK, Prod.mk.injEq, and_assoc, List.map_cons, List.map_nil, List.length_cons, List.length_nil, List.replicate, List.cons_append, List.nil_append, List.getElem?_cons_zero, List.getElem?_cons_succ, List.set_cons_zero, List.set_cons_succ, Option.some.injEq, exists_eq_left', exists_eq_left, true_and, and_true, List.cons.injEq, MV.int.injEq, MV.bl.injEq, MV.tup.injEq, MV.fl.injEq, MV.str.injEq, MV.ref.injEq, Option.bind_some, exists_and_left, exists_const, Nat.sub_self, Nat.reduceSub, Nat.reduceAdd, List.append_nil, List.nil_append, List.length_map, Nat.add_zero, Nat.zero_add]
  refine ⟨smallLine (by decide), ?_⟩
  refine jobs_loopP ss 0 [] none none (by simp; omega) hs fun x y => ?_
  simp only [getK, setK, Option.isSome_some, eqM_int, neM_int, kit_ii, kit_bi, kit_ni, kit_si, kit_ti, kit_li, kit_ib, kit_bb, kit_tt, kit_it, kit_bt, kit_nt, kit_st, kit_lt, atI0, atI1, atI2, ixN30, ixN31, ixN32, mFn, startM, mSeq, mIf, mAsg, mRet, mRetN, mDrop, mNext, gN, gT, gsCons, gsNil, gIx, mVar, mInt, mBl, mNon, mStr, mC, mOp1, mOp2, int2, plusM, addM, mulM2, negM, isM, isNotM, isNotM2, isM2, mAug, rg1, rg2, mLstRg, mLstRgC, mTupRg, isNoneM, tV, tNo, tAn, Mini.tOr, mAnd, mOr, mNot, Mini.notM, Bool.not_false, Bool.not_true, Bool.false_eq_true, if_false, if_true, reduceIte, mIfE, aNil, aCons, mTup, mLst, mLstC, mSl, slM, pNo, pAt, mB, mCall, lenM, listM, listMC, tupleM, intM, boolM, ixM, ixV, seqOf, lstOf, Mini.cellOf, mPar, mPar3, mLc, mLcC, mFor, iSeq, Mini.iRng1, Mini.iRng2, Mini.iEnum, Mini.iZip, mIsi, isiM, tyM, mMt, mMt0, appendM, extendM, popM, catF, catF.lstM, mChain, tAll, wipeM, mdK, Prod.mk.injEq, and_assoc, List.map_cons, List.map_nil, List.length_cons, List.length_nil, List.replicate, List.cons_append, List.nil_append, List.getElem?_cons_zero, List.getElem?_cons_succ, List.set_cons_zero, List.set_cons_succ, Option.some.injEq, exists_eq_left', exists_eq_left, true_and, and_true, List.cons.injEq, MV.int.injEq, MV.bl.injEq, MV.tup.injEq, MV.fl.injEq, MV.str.injEq, MV.ref.injEq, Option.bind_some, exists_and_left, exists_const, Nat.sub_self, Nat.reduceSub, Nat.reduceAdd, List.append_nil, List.nil_append, List.length_map, Nat.add_zero, Nat.zero_add]
  exact mdF_new rfl hh (Nat.le_refl _) getK (pr_sok _) k

end Lw
namespace Lw
open PySem PySem.Spec PyProof.Rows L2 Mini PySem.W
theorem pr2_gv (p : J2) (h : (0 ≤ p.1 ∧ p.1 ≤ 1000) ∧ (0 ≤ p.2 ∧ p.2 ≤ 1000)) : GV (pr2 p) 10000 1 :=
  ⟨rfl, by
    have h1 : (MV.int p.1).shb = true := shb_int (by omega) (by omega)
    have h2 : (MV.int p.2).shb = true := shb_int (by omega) (by omega)
    simp [pr2, MV.shb, shbAll] at h1 h2 ⊢
    exact ⟨h1, h2⟩, by simp [pr2, MV.dep, depAll], by simp [pr2, MV.sz, szAll]⟩
theorem SP.job {ss : List Int} (h : SP ss) {j : J2} (hj : JOk ss j) : (0 ≤ j.1 ∧ j.1 ≤ 3) ∧ (0 ≤ j.2 ∧ j.2 ≤ 5) := by
  obtain ⟨⟨a, b⟩, c, d⟩ := hj
  have hl := h.len
  have hq : j.1.toNat < ss.length := by omega
  have hm : sz ss j.1 ∈ ss := by
    unfold sz
    rw [List.getD_eq_getElem?_getD, List.getElem?_eq_getElem hq]
    exact List.getElem_mem hq
  have := h.s _ hm
  omega
end Lw
namespace Lw
open PySem PySem.Spec PyProof.Rows L2 Mini PySem.W
def isum (l : List Int) : Nat := (l.map Int.toNat).sum
theorem isum_set : ∀ (l : List Int) (i : Nat) (x : Int), l[i]? = some x → 0 < x → isum (l.set i (x - 1)) + 1 = isum l
  | [], _, _, h, _ => by simp at h
  | y :: l, 0, x, h, h0 => by
    simp at h
    subst h
    simp [isum]
    omega
  | y :: l, i + 1, x, h, h0 => by
    have := isum_set l i x (by simpa using h) h0
    simp [isum] at this ⊢
    omega
structure RInv (ss left : List Int) (row : List J2) : Prop where
  len : left.length = ss.length
  bd : ∀ i : Nat, 0 ≤ left.getD i 0 ∧ left.getD i 0 ≤ ss.getD i 0
  jb : ∀ j ∈ row, JOk ss j
  sum : row.length + isum left ≤ 24
theorem sz_set {l : List Int} {q : Int} {x : Int} (i : Nat) : (l.set q.toNat x).getD i 0 = if i = q.toNat ∧ q.toNat < l.length then x else l.getD i 0 := by
  rw [List.getD_eq_getElem?_getD, List.getD_eq_getElem?_getD]
  by_cases h : i = q.toNat
  · subst h
    by_cases hl : q.toNat < l.length
    · rw [List.getElem?_set_self hl, if_pos ⟨rfl, hl⟩]; rfl
    · rw [if_neg (fun z => hl z.2), List.set_eq_of_length_le (by omega)]
  · rw [List.getElem?_set_ne (Ne.symm h), if_neg fun z => h z.1]
theorem RInv.step {ss left : List Int} {row : List J2} (I : RInv ss left row) {q : Int} (h0 : 0 ≤ q) (h1 : q < left.length) (hp : 0 < sz left q) : RInv ss (left.set q.toNat (sz left q - 1)) (row ++ [(q, sz ss q - sz left q)]) ∧ isum (left.set q.toNat (sz left q - 1)) < isum left := by
  have hl : q.toNat < left.length := by omega
  have e : left[q.toNat]? = some (sz left q) := by
    unfold sz
    rw [List.getD_eq_getElem?_getD, List.getElem?_eq_getElem hl]
    rfl
  have hs := isum_set left q.toNat _ e hp
  have b := I.bd q.toNat
  refine ⟨⟨by rw [List.length_set]; exact I.len, fun i => ?_, fun j hj => ?_, by rw [List.length_append, List.length_singleton]; have := I.sum; omega⟩, by omega⟩
  · rw [sz_set]
    split
    · rename_i z
      have b := I.bd i
      rw [z.1] at b ⊢
      show (0 : Int) ≤ left.getD q.toNat 0 - 1 ∧ left.getD q.toNat 0 - 1 ≤ _
      have hp' : 0 < left.getD q.toNat 0 := hp
      omega
    · exact I.bd i
  · rcases List.mem_append.mp hj with hj | hj
    · exact I.jb j hj
    · rw [List.mem_singleton.mp hj]
      have hp' : 0 < left.getD q.toNat 0 := hp
      refine ⟨⟨h0, by rw [← I.len]; exact h1⟩, ?_, ?_⟩
      · show (0 : Int) ≤ ss.getD q.toNat 0 - left.getD q.toNat 0
        omega
      · show ss.getD q.toNat 0 - left.getD q.toNat 0 < ss.getD q.toNat 0
        omega
end Lw
namespace Lw
open PySem PySem.Spec PyProof.Rows L2 Mini PySem.W
end Lw
namespace Lw
open PySem PySem.Spec PyProof.Rows L2 Mini PySem.W
end Lw
namespace Lw
open PySem PySem.Spec PyProof.Rows L2 Mini PySem.W
end Lw
namespace Lw
open PySem PySem.Spec PyProof.Rows L2 Mini PySem.W
end Lw
namespace Lw
open PySem PySem.Spec PyProof.Rows L2 Mini PySem.W
end Lw
namespace Lw
open PySem PySem.Spec PyProof.Rows L2 Mini PySem.W
theorem wv4_gv {w : T4} (h : (0 ≤ w.1 ∧ w.1 ≤ 1000) ∧ (0 ≤ w.2.1 ∧ w.2.1 ≤ 1000) ∧ (0 ≤ w.2.2.1 ∧ w.2.2.1 ≤ 1000) ∧ (0 ≤ w.2.2.2 ∧ w.2.2.2 ≤ 1000)) : GV (wv4 w) 20010 2 := by
  have a := pr2_gv (w.1, w.2.1) (by exact ⟨h.1, h.2.1⟩)
  have b := pr2_gv (w.2.2.1, w.2.2.2) (by exact ⟨h.2.2.1, h.2.2.2⟩)
  exact ((GA.one a).app (GA.one b)).tup.mono (by omega) (by omega)
theorem PP.ga_s {ss : List Int} {es : List T4} (P : PP ss es) : GA (ss.map MV.int) 20000 0 :=
  (ga_ints2 fun n hn => by have := P.s.s n hn; omega).deep (by have := P.s.len; omega) (by omega)
theorem PP.gv_w {ss : List Int} {es : List T4} (P : PP ss es) {w : T4} (hw : w ∈ es) : GV (wv4 w) 20010 2 := by
  have a := P.s.job (P.w w hw).a
  have b := P.s.job (P.w w hw).b
  exact wv4_gv (by omega)
theorem PP.ga_w {ss : List Int} {es : List T4} (P : PP ss es) : GA (es.map wv4) 480300 2 := by
  have := ga_of (S := 20010) (d := 2) (xs := es.map wv4) fun x hx => by
    obtain ⟨w, hw, rfl⟩ := List.mem_map.mp hx
    exact P.gv_w hw
  rw [List.length_map] at this
  exact this.deep (by have := P.len; omega) (by omega)
abbrev VB (v : MV) : Prop := GV v 2100000 8
theorem PP.vb {ss : List Int} {es : List T4} (P : PP ss es) : VB (planP ss es) :=
  ((GA.one (P.ga_s.tup.mono (Nat.le_refl _) (show 0 + 1 ≤ 3 by omega))).app (GA.one P.ga_w.tup)).tup.mono (by omega) (by omega)
abbrev pz (a b : Int) : MV := .tup [.int a, .int b]
end Lw
namespace Lw
open PySem PySem.Spec PyProof.Rows L2 Mini PySem.W
theorem PP.gd {ss : List Int} {es : List T4} (P : PP ss es) : Gd (planP ss es) := P.vb.gd (by omega) (by omega)
theorem der_cell {n : Nat} {xs : List MV} {h : MHp} (hc : h[n]? = some (.lst xs)) : der h (.ref n) = .fl xs := by
  unfold der
  dsimp only
  rw [hc]
theorem ne_by {v u v' u' : MV} {b : Bool} {h : MHp} {Q : MQ} (e1 : der h v = v') (e2 : der h u = u') (hv : v'.ok = true) (hu : u'.ok = true) (e : v'.eqv u' = b) (k : Q (.bl (!b)) h) : neM v u h Q := by
  subst e1 e2 e
  exact .inr ⟨hv, hu, k⟩
end Lw
namespace Lw
open PySem PySem.Spec PyProof.Rows L2 Mini PySem.W
def finB (ns : List Int) (j : J2) : Bool := decide (j.2 < sz ns j.1)
def firsts (es : List T4) (j : J2) : List J2 := (es.filter fun w => decide ((w.2.2.1, w.2.2.2) = j)).map fun w => (w.1, w.2.1)
def rdy1 (es : List T4) (ns : List Int) (p : Int × Nat) : Option J2 := if (decide (sz ns p.2 < p.1) && (firsts es ((p.2 : Int), sz ns p.2)).all (finB ns)) = true then some ((p.2 : Int), sz ns p.2) else none
def rdy (ss : List Int) (es : List T4) (ns : List Int) : List J2 := ss.zipIdx.filterMap (rdy1 es ns)
def mov (ns : List Int) (j : J2) : List Int := ns.set j.1.toNat (sz ns j.1 + 1)
structure MOk (ss ns : List Int) : Prop where
  len : ns.length = ss.length
  r : ∀ q : Nat, q < ss.length → 0 ≤ sz ns q ∧ sz ns q ≤ sz ss q
def zer (ss : List Int) : List Int := ss.map fun _ => 0
theorem sz_nat {ns : List Int} {q : Nat} : sz ns (q : Int) = ns.getD q 0 := rfl
theorem zip_at {ss : List Int} {p : Int × Nat} : p ∈ ss.zipIdx ↔ p.2 < ss.length ∧ sz ss (p.2 : Int) = p.1 := by
  rw [List.mem_zipIdx_iff_getElem?, sz_nat, List.getD_eq_getElem?_getD]
  constructor
  · intro h
    rw [h]
    exact ⟨(List.getElem?_eq_some_iff.mp h).1, rfl⟩
  · rintro ⟨h, e⟩
    rw [List.getElem?_eq_getElem h] at e ⊢
    exact congrArg some e
theorem mem_rdy {ss : List Int} {es : List T4} {ns : List Int} {j : J2} : j ∈ rdy ss es ns ↔ (0 ≤ j.1 ∧ j.1 < ss.length) ∧ j.2 = sz ns j.1 ∧ j.2 < sz ss j.1 ∧ ∀ i ∈ firsts es j, finB ns i = true := by
  unfold rdy
  rw [List.mem_filterMap]
  constructor
  · rintro ⟨p, hp, e⟩
    obtain ⟨h1, h2⟩ := zip_at.mp hp
    unfold rdy1 at e
    split at e
    · rename_i hc
      injection e with e
      subst e
      simp only [Bool.and_eq_true, decide_eq_true_eq, List.all_eq_true] at hc
      refine ⟨⟨Int.natCast_nonneg _, by show ((p.2 : Nat) : Int) < _; omega⟩, rfl, ?_, hc.2⟩
      show sz ns _ < sz ss _
      rw [h2]; exact hc.1
    · cases e
  · rintro ⟨⟨h0, h1⟩, h2, h3, h4⟩
    obtain ⟨q, k⟩ := j
    simp only at h0 h1 h2 h3
    obtain ⟨n, rfl⟩ := Int.eq_ofNat_of_zero_le h0
    refine ⟨(sz ss n, n), zip_at.mpr ⟨by omega, rfl⟩, ?_⟩
    unfold rdy1
    subst h2
    rw [if_pos]
    simp only [Bool.and_eq_true, decide_eq_true_eq, List.all_eq_true]
    exact ⟨h3, h4⟩
theorem sz_mov {ns : List Int} {j : J2} (h0 : 0 ≤ j.1) (h1 : j.1 < ns.length) (q : Nat) : sz (mov ns j) q = if (q : Int) = j.1 then sz ns q + 1 else sz ns q := by
  unfold mov
  rw [sz_nat, sz_nat, List.getD_eq_getElem?_getD, List.getD_eq_getElem?_getD]
  by_cases h : (q : Int) = j.1
  · have e : j.1.toNat = q := by omega
    rw [if_pos h, e, List.getElem?_set_self (by omega)]
    rw [Option.getD_some, ← h]
    unfold sz
    rw [List.getD_eq_getElem?_getD] <;> rfl
  · rw [if_neg h, List.getElem?_set_ne (by omega)]
theorem mov_len {ns : List Int} {j : J2} : (mov ns j).length = ns.length := List.length_set ..
theorem MOk.mov {ss : List Int} {es : List T4} {ns : List Int} (M : MOk ss ns) {j : J2} (hj : j ∈ rdy ss es ns) : MOk ss (mov ns j) := by
  obtain ⟨⟨h0, h1⟩, h2, h3, _⟩ := mem_rdy.mp hj
  refine ⟨mov_len.trans M.len, fun q hq => ?_⟩
  have := M.r q hq
  rw [sz_mov h0 (by rw [M.len]; exact h1)]
  split
  · rename_i e
    rw [h2, ← e] at h3
    omega
  · exact this
theorem zer_len {ss : List Int} : (zer ss).length = ss.length := List.length_map ..
theorem zer_sz {ss : List Int} {q : Int} : sz (zer ss) q = 0 := by
  unfold sz zer
  rw [List.getD_eq_getElem?_getD, List.getElem?_map]
  cases ss[q.toNat]? <;> rfl
theorem SP.szs {ss : List Int} (h : SP ss) {q : Int} : 0 ≤ sz ss q ∧ sz ss q ≤ 6 := by
  unfold sz
  rw [List.getD_eq_getElem?_getD]
  cases e : ss[q.toNat]? with
  | none => exact ⟨Int.le_refl _, by decide⟩
  | some x => exact h.s x (List.mem_of_getElem? e)
theorem zer_ok {ss : List Int} (h : SP ss) : MOk ss (zer ss) := ⟨zer_len, fun q hq => by rw [zer_sz]; exact ⟨Int.le_refl _, h.szs.1⟩⟩
inductive Rch (ss : List Int) (es : List T4) : List Int → Prop
  | zero : Rch ss es (zer ss)
  | step {ns : List Int} {j : J2} : Rch ss es ns → j ∈ rdy ss es ns → Rch ss es (mov ns j)
theorem Rch.ok {ss : List Int} {es : List T4} (h : SP ss) {ns : List Int} : Rch ss es ns → MOk ss ns
  | .zero => zer_ok h
  | .step r hj => (Rch.ok h r).mov hj
end Lw
namespace Lw
open PySem PySem.Spec PyProof.Rows L2 Mini PySem.W
theorem hh_old {h u : MHp} (hh : Hh h) : oldOk h.length (h ++ u) = true := by
  show ((h ++ u).take h.length).all (fun c => c.lo h.length) = true
  rw [List.take_append_of_le_length (Nat.le_refl _)]
  exact hh
end Lw
namespace Lw
open PySem PySem.Spec PyProof.Rows L2 Mini PySem.W
end Lw
namespace Lw
open PySem PySem.Spec PyProof.Rows L2 Mini PySem.W
end Lw
namespace Lw
open PySem PySem.Spec PyProof.Rows L2 Mini

end Lw
namespace Lw
open PySem PySem.Spec PyProof.Rows L2 Mini PySem.W
theorem mrow_nd {q : Nat} {s : Int} : (mrow q s).Nodup := by
  unfold mrow
  refine List.pairwise_map.mpr (List.nodup_range.imp fun {a b} h e => h ?_)
  have := congrArg Prod.snd e
  simp only at this
  omega
theorem mrows_nd : ∀ (k : Nat) (ss : List Int), (mrows k ss).Nodup
  | _, [] => List.nodup_nil
  | k, s :: ss => by
    unfold mrows
    refine List.nodup_append.mpr ⟨mrow_nd, mrows_nd (k + 1) ss, fun a ha b hb e => ?_⟩
    subst e
    unfold mrow at ha
    obtain ⟨x, _, rfl⟩ := List.mem_map.mp ha
    obtain ⟨i, p, z, _, _, e⟩ := mem_mrows.mp hb
    have := congrArg Prod.fst e
    simp only at this
    omega
def fstJ (w : T4) : J2 := (w.1, w.2.1)
def sndJ (w : T4) : J2 := (w.2.2.1, w.2.2.2)
def updJ (acc : J2 → List J2) (i j : J2) : J2 → List J2 := fun x => if x = i then acc x ++ [j] else acc x
def stp2 (acc : J2 → List J2) (w : T4) : J2 → List J2 := updJ acc (fstJ w) (sndJ w)
theorem len2 {j : J2} : ∀ (es : List T4) (acc : J2 → List J2), (es.foldl stp2 acc j).length ≤ (acc j).length + es.length
  | [], acc => Nat.le_refl _
  | i :: js, acc => by
    rw [List.foldl_cons, List.length_cons]
    refine Nat.le_trans (len2 js _) ?_
    unfold stp2 updJ
    split
    · rw [List.length_append, List.length_singleton]; omega
    · omega
end Lw
namespace Lw
open PySem PySem.Spec PyProof.Rows L2 Mini PySem.W
abbrev gapV (ss : List Int) (es : List T5) (z : Gt) : MV := .fi 100 [plan ss es, .fl ((mrows 0 ss).map pr2), .fl ((tiesOf ss es).map wv), .fd (kG z) (vG z)]
def gapF (ss : List Int) (es : List T5) : GF := fwF (mrows 0 ss) (tiesOf ss es)
theorem pr_nd {ss : List Int} : (mrows 0 ss).Nodup := mrows_nd 0 ss
theorem gG_dia {ss : List Int} : ∃ z0 : Gt, kG z0 = (mrows 0 ss).map (fun j => kv (j, j)) ∧ vG z0 = (mrows 0 ss).map (fun _ => MV.int 0) ∧ GtOk (mrows 0 ss) z0 ∧ gG z0 = G0 (mrows 0 ss) := by
  refine ⟨((mrows 0 ss).map fun j => (j, j), fun _ => 0), ?_, ?_, ⟨?_, ?_⟩, ?_⟩
  · unfold kG; rw [List.map_map]; rfl
  · unfold vG; rw [List.map_map]; rfl
  · exact List.Pairwise.map _ (fun a b h e => h (Prod.mk.inj e).1) pr_nd
  · intro p hp
    obtain ⟨j, hj, rfl⟩ := List.mem_map.mp hp
    exact ⟨hj, hj⟩
  · funext p
    unfold gG G0
    have : p ∈ (mrows 0 ss).map (fun j => (j, j)) ↔ p.1 = p.2 ∧ p.1 ∈ mrows 0 ss := by
      rw [List.mem_map]
      constructor
      · rintro ⟨j, hj, rfl⟩
        exact ⟨rfl, hj⟩
      · rintro ⟨h1, h2⟩
        exact ⟨p.1, h2, by rw [Prod.ext_iff]; exact ⟨rfl, h1⟩⟩
    by_cases h : p ∈ (mrows 0 ss).map (fun j => (j, j))
    · rw [if_pos h, if_pos (this.mp h)]
    · rw [if_neg h, if_neg fun z => h (this.mpr z)]
theorem plan_lo (ss : List Int) (es : List T5) (n : Nat) : (plan ss es).lo n = true := lo_sok _ _ (plan_sok ss es)
theorem lo_prs (n : Nat) (ps : List J2) : loAll n (ps.map pr2) = true := loAll_sok n _ (pr_sok _)
theorem lo_kG {n : Nat} (z : Gt) : loAll n (kG z) = true := loAll_sok n _ (sok_map fun p => by simp [kv, MV.sok, sokAll, pr_sok1])
theorem lo_vG {n : Nat} (z : Gt) : loAll n (vG z) = true := loAll_sok n _ (sok_map fun _ => rfl)
theorem gaps_ok {ss : List Int} {es : List T5} (hs : SOk ss) (hw : ∀ w ∈ es, WOk ss w) (he : es.length ≤ 12) {h : MHp} (hh : Hh h) {Q E : MQ} (k : ∀ z, GtOk (mrows 0 ss) z → gG z = gapF ss es → Q (gapV ss es z) h) :
    newF 100 f_Gaps___init__ [plan ss es] h Q E := by
  have hl := jobs16 hs
  have L := LkOk.ties hs hw
  unfold newF
  (unfold f_Gaps___init__; refine Mini.mFn_i rfl ?_; unfold b_Gaps___init__; refine Mini.kb_i ?_; walk_at "mx")
  (walk_at "mx"; simp only [mSetF_at]; walk_at "mx")
  refine setFS_i getK (Nat.le_refl _) ?_
  have h1 : ∀ xs, loAll h.length xs = true → Hh (h ++ [Cell.ins 100 xs]) := fun xs e => hh_snoc hh e
  rw [setK]
  walk_at "nx"
  (walk_at "mx"; simp only [mSetF_at]; walk_at "mx")
  refine list_jobs_ok hs (h1 _ (by simp [Mini.putAt, loAll, plan_lo])) ?_
  walk_at "mx"
  refine setFS_i getK (Nat.le_refl _) ?_
  rw [setK]
  walk_at "nx"
  (walk_at "mx"; simp only [mSetF_at]; walk_at "mx")
  refine call_i ?_
  refine find_links_ok hs.len he hs.s (h1 _ (by simp [Mini.putAt, loAll, plan_lo]; exact lo_prs _ _)) ?_
  walk_at "mx"
  have e1 : (h ++ [Cell.ins 100 (Mini.putAt (Mini.putAt [] 0 (plan ss es)) 1 (MV.fl (List.map pr2 (mrows 0 ss))))]).length = h.length + 1 := by simp
  rw [e1]
  refine setFS_i (xs := [plan ss es, .fl ((mrows 0 ss).map pr2)]) (by simp; rfl) (Nat.le_refl _) ?_
  have e2 : (h ++ [Cell.ins 100 (Mini.putAt (Mini.putAt [] 0 (plan ss es)) 1 (MV.fl (List.map pr2 (mrows 0 ss))))] ++ [Cell.lst (List.map wv (tiesOf ss es))]).set h.length (Cell.ins 100 (Mini.putAt [plan ss es, .fl ((mrows 0 ss).map pr2)] 2 (.ref (h.length + 1)))) = h ++ [.ins 100 [plan ss es, .fl ((mrows 0 ss).map pr2), .ref (h.length + 1)], .lst ((tiesOf ss es).map wv)] := by
    simp; rfl
  rw [e2]
  walk_at "nx"
  (walk_at "mx"; simp only [mSetF_at, mDc_at]; walk_at "mx")
  (walk_at "mx"; simp only [mFld_at]; walk_at "mx")
  walk_at "sd"
  refine fldS_ref getK1 rfl ?_
  walk_at "mx"
  obtain ⟨z0, ez1, ez2, hz0, ez⟩ := gG_dia (ss := ss)
  refine cpd_map (ea := pr2) (ek := fun j => kv (j, j)) (k := fun j => kk (j, j)) (fun j => tk_kv (j, j)) (List.Pairwise.map _ (fun a b hne e => hne (Prod.mk.inj (kk_inj _ _ e)).1) pr_nd) (by omega) (fun _ => .int 0) okT_i ?_ fun j hj K hK => ?_
  rotate_left
  · walk_at "mx"
    rw [itd_at]
    walk_at "mx"
    walk_at "sd"
    exact hK
  rw [← ez1, ← ez2]
  intro ep0
  walk_at "mx"
  refine setFS_i (xs := [plan ss es, .fl ((mrows 0 ss).map pr2), .ref (h.length + 1)]) (by simp) (Nat.le_refl _) ?_
  have e3 : ∀ h2 : MHp, h2 = h ++ [.ins 100 [plan ss es, .fl ((mrows 0 ss).map pr2), .ref (h.length + 1)], .lst ((tiesOf ss es).map wv)] → (h2 ++ [Cell.dct ep0 (kG z0) (vG z0)]).set h.length (Cell.ins 100 (Mini.putAt [plan ss es, .fl ((mrows 0 ss).map pr2), .ref (h.length + 1)] 3 (.ref h2.length))) = h ++ gap3 ss es h.length z0 ep0 := by
    intro h2 e
    subst e
    simp; rfl
  rw [e3 _ rfl]
  walk_at "nx"
  (walk_at "mx"; simp only [mFld_at]; walk_at "mx")
  refine fldS_ref g3a rfl ?_
  walk_at "mx"
  (walk_at "mx"; simp only [g3b]; walk_at "mx")
  have hz1 : ∀ (ws : List T5) {g : GF}, lnkF ws g = ws.foldl (fun G w => relx G (j1 w, j2 w) (dst w)) g := fun _ _ => rfl
  refine loop_T (ea := wv) (fun rest s h' => ∃ z' ep', s = inS h.length none none none ∧ h' = h ++ gap3 ss es h.length z' ep' ∧ GtOk (mrows 0 ss) z' ∧ (∀ w ∈ rest, w ∈ tiesOf ss es) ∧ lnkF rest (gG z') = lnkF (tiesOf ss es) (G0 (mrows 0 ss))) ⟨z0, ep0, rfl, rfl, hz0, fun _ h => h, by rw [ez]⟩ (fun _ _ h' ⟨_, _, _, e, _⟩ => by rw [e]; exact lst_r g3b) (fun s h' ⟨z1, ep1, e1, e2, hz1', _, e3⟩ => ?_) fun w rest s h' K ⟨z', ep', e1, e2, hz', hb, e3⟩ hK => ?_
  rotate_left
  · subst e1 e2
    unfold wv
    walk_at "mx"
    walk_at "kbi"
    have hw1 := hb w List.mem_cons_self
    refine init_link hs hz' (L.a w hw1) (L.b w hw1) fun z2 ep2 hz2 e2 => hK _ _ ⟨z2, ep2, rfl, rfl, hz2, fun c hc => hb c (List.mem_cons_of_mem _ hc), ?_⟩
    rw [e2]
    exact e3
  subst e1 e2
  walk_at "nx"
  (walk_at "mx"; simp only [mFld_at]; walk_at "mx")
  refine fldS_ref g3a rfl ?_
  walk_at "mx"
  refine loop_T (ea := pr2) (fun rest s h' => ∃ z' ep', s = inS h.length none none none ∧ h' = h ++ gap3 ss es h.length z' ep' ∧ GtOk (mrows 0 ss) z' ∧ (∀ b ∈ rest, b ∈ mrows 0 ss) ∧ rest.foldl (midF (mrows 0 ss)) (gG z') = gapF ss es) ⟨z1, ep1, rfl, rfl, hz1', fun _ h => h, by rw [show gG z1 = _ from e3]; rfl⟩ (fun _ _ _ _ => okT_i) (fun s h' ⟨z, ep, e1, e2, hz, _, e3⟩ => ?_) fun b rest s h' K ⟨z', ep', e1, e2, hz', hb, e3⟩ hK => ?_
  · subst e1 e2
    have hf : frz h.length (h ++ gap3 ss es h.length z ep) 8 (.ref h.length) = gapV ss es z := by
      show (if h.length < h.length then _ else _) = _
      rw [if_neg (Nat.lt_irrefl _), g3a]
      show MV.fi 100 [frz _ _ 7 (plan ss es), frz _ _ 7 (.fl ((mrows 0 ss).map pr2)), (if h.length + 1 < h.length then _ else _), (if h.length + 2 < h.length then _ else _)] = _
      rw [if_neg (by omega), if_neg (by omega), g3b, g3c]
      rw [frz_sok 7 (plan_sok ss es), frz_sok 7 (v := .fl ((mrows 0 ss).map pr2)) (pr_sok _)]
      show MV.fi 100 [_, _, MV.fl (((tiesOf ss es).map wv).map (frz _ _ 6)), MV.fd (kG z) ((vG z).map (frz _ _ 6))] = _
      have m1 : ∀ n h k, ((tiesOf ss es).map wv).map (frz n h k) = (tiesOf ss es).map wv := fun n h k => by
        rw [List.map_map]
        exact List.map_congr_left fun w _ => frz_sok k (wv_sok w)
      have m2 : ∀ n h k, (vG z).map (frz n h k) = vG z := fun n h k => by
        unfold vG
        rw [List.map_map]
        exact List.map_congr_left fun w _ => frz_sok k rfl
      rw [m1, m2]
    refine ⟨rfl, by simp, hh_old hh, ?_, ?_⟩
    · rw [hf]
      show (MV.lo _ (plan ss es) && (loAll _ ((mrows 0 ss).map pr2) && (loAll _ ((tiesOf ss es).map wv) && ((loAll _ (kG z) && loAll _ (vG z)) && true)))) = true
      rw [plan_lo, lo_prs, loAll_sok _ _ (wv_sok_all _), lo_kG, lo_vG]
      rfl
    · rw [hf, List.take_left' rfl]
      exact k z hz e3
  · subst e1 e2
    walk_at "mx"
    walk_at "kbi"
    refine init_mid hs hz' (hb b List.mem_cons_self) fun z2 ep2 hz2 e2 => hK _ _ ⟨z2, ep2, rfl, rfl, hz2, fun c hc => hb c (List.mem_cons_of_mem _ hc), ?_⟩
    rw [e2]
    exact e3
end Lw
namespace Lw
def RowP (L : List T5) : J2 → List T5 → J2 → Prop
  | a, [], b => a = b
  | a, w :: ws, b => w ∈ L ∧ j1 w = a ∧ RowP L (j2 w) ws b
theorem foldl_sum (z : Int) : ∀ xs : List Int, xs.foldl (· + ·) z = z + xs.foldl (· + ·) 0
  | [] => by simp
  | x :: xs => by rw [List.foldl_cons, List.foldl_cons, foldl_sum (z + x) xs, foldl_sum (0 + x) xs]; omega
theorem RowP.snoc {L : List T5} : ∀ {ws : List T5} {a b : J2} {w : T5}, RowP L a ws b → w ∈ L → j1 w = b → RowP L a (ws ++ [w]) (j2 w)
  | [], a, b, w, h, hw, e => ⟨hw, by rw [e]; exact (show a = b from h).symm, rfl⟩
  | v :: ws, a, b, w, h, hw, e => ⟨h.1, h.2.1, RowP.snoc h.2.2 hw e⟩
theorem RowP.row {L : List T5} : ∀ {ws : List T5} {a b : J2}, RowP L a ws b → ∃ d, d = (ws.map dst).foldl (· + ·) 0 ∧ Row L a b d
  | [], a, b, h => ⟨0, rfl, by rw [show a = b from h]; exact .nil b⟩
  | w :: ws, a, b, h => by
    obtain ⟨d, e, r⟩ := RowP.row h.2.2
    refine ⟨dst w + d, ?_, by rw [← h.2.1]; exact .cons h.1 r⟩
    rw [List.map_cons, List.foldl_cons, foldl_sum, e]
    omega
def goodW (M : List J2) (L : List T5) (here b : J2) (w : T5) : Prop := j1 w = here ∧ ∃ r, fwF M L (j2 w, b) = some r ∧ fwF M L (here, b) = some (dst w + r)
theorem good_ex {M : List J2} {L : List T5} (h : LkOk M L) {a b : J2} {e : Int} (ne : a ≠ b) (q : fwF M L (a, b) = some e) : ∃ w ∈ L, goodW M L a b w := by
  have r := fwF_row h q
  cases r with
  | nil => exact absurd rfl ne
  | @cons w _ d hw r =>
    obtain ⟨x, hx, lx⟩ := fwF_min h r (h.b w hw)
    obtain ⟨y, hy, ly⟩ := fwF_min h (.cons hw (fwF_row h hx)) (h.a w hw)
    rw [q] at hy
    cases hy
    exact ⟨w, hw, rfl, x, hx, by rw [q, show dst w + x = dst w + d by omega]⟩
end Lw
namespace Lw
open PySem PySem.Spec PyProof.Rows L2 Mini PySem.W
theorem o_wv0 {w : T5} {h : MHp} {Q : MQ} : @o2 ixM (wv w) (.int 0) h ⟨Q⟩ = Q (pr2 (j1 w)) h := propext ix_wv0
theorem o_wv1 {w : T5} {h : MHp} {Q : MQ} : @o2 ixM (wv w) (.int 1) h ⟨Q⟩ = Q (pr2 (j2 w)) h := propext ix_wv1
theorem o_wv2 {w : T5} {h : MHp} {Q : MQ} : @o2 ixM (wv w) (.int 2) h ⟨Q⟩ = Q (.int (dst w)) h := propext ix_wv2
theorem oG_eq {i j : J2} {h : MHp} {Q : MQ} (q : Q (.bl (decide (i = j))) h) : @o2 eqM (pr2 i) (pr2 j) h ⟨Q⟩ := eq_pr q
def oI : Option Int → MV
  | none => .non
  | some d => .int d
theorem oI_sok (o : Option Int) : (oI o).sok = true := by cases o <;> rfl
theorem gap_find_ok {ss : List Int} {es : List T5} {z : Gt} (ez : gG z = gapF ss es) {a b : J2} {h : MHp} (hh : Hh h) {Q E : MQ} (k : Q (oI (gapF ss es (a, b))) h) : f_Gaps_find [gapV ss es z, pr2 a, pr2 b] h Q E := by
  (unfold f_Gaps_find; refine Mini.mFn_i rfl ?_; unfold b_Gaps_find; refine Mini.kb_i ?_; walk_at "mx")
  (walk_at "mx"; simp only [mDm_at]; walk_at "mx")
  (walk_at "mx"; simp only [mFld_at]; walk_at "mx")
  rw [fldS_fi]
  walk_at "mx"
  refine ⟨rfl, ?_⟩
  walk_at "mx"
  walk_at "sd"
  refine getM1_i (u := kv (a, b)) (v := .fd (kG z) (vG z)) rfl (tk_kv (a, b)) (y := oI (gapF ss es (a, b))) (by rw [get_G, ez]; cases gapF ss es (a, b) <;> rfl) ?_
  exact fin_sok hh (oI_sok _) k
end Lw
namespace Lw
open PySem PySem.Spec PyProof.Rows L2 Mini PySem.W
def lkA (q s i : Int) : T5 := (q, i, q, if i = s - 1 then 0 else i + 1, if i = s - 1 then 1 else 0)
theorem row_lk {q : Nat} {s : Int} (h : 1 ≤ s) : (irng 0 s).map (lkA q s) = row q s := by
  obtain ⟨n, rfl⟩ : ∃ n : Nat, s = (n : Int) + 1 := ⟨(s - 1).toNat, by omega⟩
  unfold irng row
  rw [show ((n : Int) + 1 - 0).toNat = n + 1 by omega, show ((n : Int) + 1 - 1).toNat = n by omega, List.range_succ, List.map_append, List.map_append, List.map_map, List.map_map]
  congr 1
  · refine List.map_congr_left fun i hi => ?_
    have := List.mem_range.mp hi
    show lkA q _ (0 + (i : Int)) = _
    unfold lkA
    rw [if_neg (by omega), if_neg (by omega), Int.zero_add]
  · show [lkA q _ (0 + (n : Int))] = _
    unfold lkA
    rw [if_pos (by omega), if_pos (by omega), Int.zero_add, show (n : Int) + 1 - 1 = n by omega]
abbrev lkS (n : Nat) (x2 x3 x4 x5 : Option MV) : MSt := [none, some (.ref n), x2, x3, x4, x5]
theorem one_link_ok {q s i : Int} {fs : List T5} (hl : fs.length < 1000) {h : MHp} {D : MD} (k : D.nx (lkS h.length (some (.int q)) (some (.int s)) none none) (h ++ [.lst ((fs ++ [lkA q s i]).map wv)])) :
    l__law_links_1 (lkS h.length (some (.int q)) (some (.int s)) (some (.int i)) none) (h ++ [.lst (fs.map wv)]) D := by
  obtain ⟨N, R, B, C, X⟩ := D
  unfold l__law_links_1
  walk_at "nx"
  by_cases e : i = s - 1
  · have e' : (i == s - 1) = true := by simpa using e
    rw [e']
    walk_at "mx"
    walk_at "sd"
    unfold lkA at k
    rw [if_pos e, if_pos e, List.map_append] at k
    exact k
  · have e' : (i == s - 1) = false := by simpa using e
    rw [e']
    walk_at "mx"
    walk_at "sd"
    unfold lkA at k
    rw [if_neg e, if_neg e, List.map_append] at k
    exact k
theorem queue_links_ok {q : Nat} {s : Int} (hs : 1 ≤ s ∧ s ≤ 4) {fs : List T5} (hl : fs.length + 10 < 1000) {h : MHp} {D : MD} (k : D.nx (lkS h.length none none none none) (h ++ [.lst ((fs ++ row q s).map wv)])) :
    l__law_links_2 (lkS h.length (some (.int (q : Int))) (some (.int s)) none none) (h ++ [.lst (fs.map wv)]) D := by
  obtain ⟨N, R, B, C, X⟩ := D
  unfold l__law_links_2
  walk_at "mx"
  refine ⟨⟨by omega, by omega⟩, ?_⟩
  refine loop_T (ea := MV.int) (fun rest st h' => ∃ (i : Int) (gs : List T5), st = lkS h.length (some (.int (q : Int))) (some (.int s)) none none ∧ h' = h ++ [.lst (gs.map wv)] ∧ rest = irng i s ∧ gs ++ (irng i s).map (lkA q s) = fs ++ row q s) ⟨0, fs, rfl, rfl, rfl, by rw [row_lk hs.1]⟩ (fun _ _ _ _ => okT_i) (fun st h' ⟨i, gs, e1, e2, e3, e4⟩ => ?_) fun x rest st h' K ⟨i, gs, e1, e2, e3, e4⟩ hK => ?_
  · subst e1 e2
    rw [← e3, List.map_nil, List.append_nil] at e4
    rw [e4]
    exact k
  · subst e1 e2
    have hi : i < s := by
      by_cases z : i < s
      · exact z
      · rw [irng_nil (by omega)] at e3; cases e3
    rw [irng_succ hi] at e3 e4
    cases e3
    walk_at "mx"
    walk_at "kbi"
    have hlen := congrArg List.length e4
    have rl := row_len (q := q) hs.2
    rw [List.length_append, List.length_append] at hlen
    refine one_link_ok (i := x) (by omega) (hK _ _ ⟨x + 1, gs ++ [lkA q s x], rfl, rfl, rfl, ?_⟩)
    rw [List.append_assoc]
    exact e4
theorem law_links_ok {ss : List Int} {es : List T5} (hl : ss.length ≤ 4) (he : es.length ≤ 12) (hs : ∀ s ∈ ss, 1 ≤ s ∧ s ≤ 4) {h : MHp} (hh : Hh h) {Q E : MQ} (k : Q (.fl ((tiesOf ss es).map wv)) h) : f__law_links [plan ss es] h Q E := by
  have hrl := rows_len ss 0 hs
  (unfold f__law_links; refine Mini.mFn_i rfl ?_; unfold b__law_links; refine Mini.kb_i ?_; walk_at "mx")
  walk_at "nx"
  refine loop_T (ea := enumT MV.int) (fun rest st h' => ∃ (n : Nat) (us : List Int) (gs : List T5), st = lkS h.length none none none none ∧ h' = h ++ [.lst (gs.map wv)] ∧ rest = us.zipIdx n ∧ (∀ s ∈ us, 1 ≤ s ∧ s ≤ 4) ∧ gs ++ rows n us = es ++ rows 0 ss) ⟨0, ss, es, rfl, rfl, rfl, hs, rfl⟩ (fun _ _ _ _ => okT_i) (fun st h' ⟨n, us, gs, e1, e2, e3, _, e4⟩ => ?_) fun x rest st h' K ⟨n, us, gs, e1, e2, e3, hu, e4⟩ hK => ?_
  · subst e1 e2
    have : us = [] := by cases us with
      | nil => rfl
      | cons a us => rw [List.zipIdx_cons] at e3; cases e3
    subst this
    rw [show rows n [] = [] from rfl, List.append_nil] at e4
    subst e4
    walk_at "nx"
    refine ⟨_, _, rfl, lst_r getK, wv_sort (by have := rows_len ss 0 hs; rw [List.length_append]; omega), ?_⟩
    rw [srt_W]
    exact mdF_sok (h := h) (u := [.lst ((es ++ rows 0 ss).map wv)]) rfl hh (by simpa [MV.sok] using wv_sok_all _) k
  · subst e1 e2
    cases us with
    | nil => cases e3
    | cons s us =>
      rw [List.zipIdx_cons] at e3
      cases e3
      have hlen := congrArg List.length e4
      rw [List.length_append, List.length_append] at hlen
      show gT _ _ (.tup [.int (n : Nat), .int s]) _ _ _ _
      walk_at "mx"
      walk_at "kbi"
      rw [show rows n (s :: us) = row n s ++ rows (n + 1) us from rfl, ← List.append_assoc] at e4
      refine queue_links_ok (hu s List.mem_cons_self) (by omega) (hK _ _ ⟨n + 1, us, gs ++ row n s, rfl, rfl, rfl, fun x hx => hu x (List.mem_cons_of_mem _ hx), e4⟩)
end Lw
namespace Lw
open PySem PySem.Spec PyProof.Rows L2 Mini PySem.W
def miG (z : Gt) (p : P2) (d : Int) : Gt := setG z p (match gG z p with | none => d | some e => min d e)
theorem gG_mi {z : Gt} {p : P2} {d : Int} : gG (miG z p d) = relx (gG z) p d := relx_eq
abbrev dcG (z : Gt) (ep : Nat) : Cell := .dct ep (kG z) (vG z)
abbrev lgS (ss : List Int) (n : Nat) (x0 x2 x5 x6 x7 x8 : Option MV) : MSt := [x0, none, x2, some (.fl ((mrows 0 ss).map pr2)), some (.ref n), x5, x6, x7, x8]
theorem put_min {h : MHp} {z : Gt} (hl : z.1.length ≤ 256) {ep : Nat} {p : P2} {d : Int} {s : MSt} {N : MSt → MHp → Prop} (k : ∀ ep', N s (h ++ [dcG (miG z p d) ep'])) (e : Int) (he : e = min d ((gG z p).getD d)) :
    @setD (.ref h.length) (kv p) (.int e) s (h ++ [dcG z ep]) ⟨N⟩ := by
  refine setD_i (k := kv p) (ks := kG z) (vs := vG z) getK (tk_kv p) (by show (z.1.map kv).length < _; rw [List.length_map]; omega) fun ep' => ?_
  rw [put_kG (d := e), put_vG, setK]
  have : setG z p e = miG z p d := by
    unfold miG
    rw [he]
    cases gG z p with
    | none => simp
    | some x => rfl
  rw [this]
  exact k ep'
theorem get_min {h : MHp} {z : Gt} {ep : Nat} {p : P2} {d : Int} {Q : MQ} (k : Q (.int ((gG z p).getD d)) (h ++ [dcG z ep])) : @oM' getM2 (.ref h.length) [kv p, .int d] (h ++ [dcG z ep]) ⟨Q⟩ :=
  getM2_i (x := .int d) (q := kk p) (dct_ref getK) (tk_kv p) (y := .int ((gG z p).getD d)) (by rw [get_G]; cases gG z p <;> rfl) k
theorem lgap_pair {ss : List Int} (hs : SOk ss) {h : MHp} {z : Gt} (hz : GtOk (mrows 0 ss) z) {ep : Nat} {m a b : J2} (hm : m ∈ mrows 0 ss) (ha : a ∈ mrows 0 ss) (hb : b ∈ mrows 0 ss) {D : MD}
    (k : ∀ z' ep', GtOk (mrows 0 ss) z' → gG z' = pairF m (gG z) (a, b) → D.nx (lgS ss h.length none (some (pr2 m)) (some (pr2 a)) none none none) (h ++ [dcG z' ep'])) :
    l__law_gaps_3 (lgS ss h.length none (some (pr2 m)) (some (pr2 a)) (some (pr2 b)) none none) (h ++ [dcG z ep]) D := by
  obtain ⟨N, R, B, C, X⟩ := D
  have hl := hz.len (jobs16 hs)
  have no : (gG z (a, m) = none ∨ gG z (m, b) = none) → N (lgS ss h.length none (some (pr2 m)) (some (pr2 a)) none none none) (h ++ [dcG z ep]) := fun e => by
    refine k z ep hz ?_
    unfold pairF
    rcases e with e | e
    · simp only [e]
    · simp only [e]
      cases gG z (a, m) <;> rfl
  unfold l__law_gaps_3
  walk_at "mx"
  walk_at "sd"
  refine inD_i (dct_ref getK) (tk_kv (a, m)) has_G ?_
  walk_at "mx"
  cases e1 : gG z (a, m) with
  | none =>
    (walk_at "mx"; simp only [Option.isSome_none]; walk_at "mx")
    walk_at "nx"
    exact no (.inl e1)
  | some x =>
    (walk_at "mx"; simp only [Option.isSome_some]; walk_at "mx")
    walk_at "sd"
    refine inD_i (dct_ref getK) (tk_kv (m, b)) has_G ?_
    walk_at "mx"
    cases e2 : gG z (m, b) with
    | none =>
      (walk_at "mx"; simp only [Option.isSome_none]; walk_at "mx")
      walk_at "nx"
      exact no (.inr e2)
    | some y =>
      (walk_at "mx"; simp only [Option.isSome_some]; walk_at "mx")
      walk_at "nx"
      walk_at "sd"
      refine ixD_i (dct_ref getK) (tk_kv (a, m)) (by rw [get_G, e1]; rfl) ?_
      walk_at "mx"
      walk_at "sd"
      refine ixD_i (dct_ref getK) (tk_kv (m, b)) (by rw [get_G, e2]; rfl) ?_
      walk_at "nx"
      (walk_at "mx"; simp only [mDm_at]; walk_at "mx")
      refine ⟨by rw [dct_ref getK] <;> rfl, ?_⟩
      walk_at "mx"
      walk_at "sd"
      refine get_min (p := (a, b)) ?_
      (walk_at "mx"; simp only [gIxD_at]; walk_at "mx")
      walk_at "sd"
      refine put_min (p := (a, b)) (d := x + y) hl (fun ep' => ?_) _ (by split <;> omega)
      refine k _ ep' (hz.set ha hb _) ?_
      unfold pairF
      simp only [e1, e2]
      exact gG_mi
theorem lgap_row {ss : List Int} (hs : SOk ss) {h : MHp} {z : Gt} (hz : GtOk (mrows 0 ss) z) {ep : Nat} {m a : J2} (hm : m ∈ mrows 0 ss) (ha : a ∈ mrows 0 ss) {D : MD}
    (k : ∀ z' ep', GtOk (mrows 0 ss) z' → gG z' = (mrows 0 ss).foldl (fun g b => pairF m g (a, b)) (gG z) → D.nx (lgS ss h.length none (some (pr2 m)) none none none none) (h ++ [dcG z' ep'])) :
    l__law_gaps_4 (lgS ss h.length none (some (pr2 m)) (some (pr2 a)) none none none) (h ++ [dcG z ep]) D := by
  obtain ⟨N, R, B, C, X⟩ := D
  unfold l__law_gaps_4
  walk_at "mx"
  refine loop_T (ea := pr2) (fun rest s h' => ∃ z' ep', s = lgS ss h.length none (some (pr2 m)) (some (pr2 a)) none none none ∧ h' = h ++ [dcG z' ep'] ∧ GtOk (mrows 0 ss) z' ∧ (∀ b ∈ rest, b ∈ mrows 0 ss) ∧ rest.foldl (fun g b => pairF m g (a, b)) (gG z') = (mrows 0 ss).foldl (fun g b => pairF m g (a, b)) (gG z)) ⟨z, ep, rfl, rfl, hz, fun _ h => h, rfl⟩ (fun _ _ _ _ => okT_i) (fun s h' ⟨z', ep', e1, e2, hz', _, e3⟩ => ?_) fun b rest s h' K ⟨z', ep', e1, e2, hz', hb, e3⟩ hK => ?_
  · subst e1 e2
    exact k z' ep' hz' e3
  · subst e1 e2
    walk_at "mx"
    walk_at "kbi"
    refine lgap_pair hs hz' hm ha (hb b List.mem_cons_self) fun z2 ep2 hz2 e2 => hK _ _ ⟨z2, ep2, rfl, rfl, hz2, fun c hc => hb c (List.mem_cons_of_mem _ hc), ?_⟩
    rw [e2]
    exact e3
theorem lgap_mid {ss : List Int} (hs : SOk ss) {h : MHp} {z : Gt} (hz : GtOk (mrows 0 ss) z) {ep : Nat} {m : J2} (hm : m ∈ mrows 0 ss) {D : MD}
    (k : ∀ z' ep', GtOk (mrows 0 ss) z' → gG z' = midF (mrows 0 ss) (gG z) m → D.nx (lgS ss h.length none none none none none none) (h ++ [dcG z' ep'])) :
    l__law_gaps_5 (lgS ss h.length none (some (pr2 m)) none none none none) (h ++ [dcG z ep]) D := by
  obtain ⟨N, R, B, C, X⟩ := D
  have em : ∀ g, midF (mrows 0 ss) g m = (mrows 0 ss).foldl (fun g a => (mrows 0 ss).foldl (fun g b => pairF m g (a, b)) g) g := fun g => fold_pairs _ _ _ _
  rw [em] at k
  unfold l__law_gaps_5
  walk_at "mx"
  refine loop_T (ea := pr2) (fun rest s h' => ∃ z' ep', s = lgS ss h.length none (some (pr2 m)) none none none none ∧ h' = h ++ [dcG z' ep'] ∧ GtOk (mrows 0 ss) z' ∧ (∀ b ∈ rest, b ∈ mrows 0 ss) ∧ rest.foldl (fun g a => (mrows 0 ss).foldl (fun g b => pairF m g (a, b)) g) (gG z') = (mrows 0 ss).foldl (fun g a => (mrows 0 ss).foldl (fun g b => pairF m g (a, b)) g) (gG z)) ⟨z, ep, rfl, rfl, hz, fun _ h => h, rfl⟩ (fun _ _ _ _ => okT_i) (fun s h' ⟨z', ep', e1, e2, hz', _, e3⟩ => ?_) fun b rest s h' K ⟨z', ep', e1, e2, hz', hb, e3⟩ hK => ?_
  · subst e1 e2
    exact k z' ep' hz' e3
  · subst e1 e2
    walk_at "mx"
    walk_at "kbi"
    refine lgap_row hs hz' hm (hb b List.mem_cons_self) fun z2 ep2 hz2 e2 => hK _ _ ⟨z2, ep2, rfl, rfl, hz2, fun c hc => hb c (List.mem_cons_of_mem _ hc), ?_⟩
    rw [e2]
    exact e3
theorem diag_fold : ∀ (js : List J2) (g : GF) (p : P2), js.foldl (fun (g : GF) (j : J2) => fun x => if x = (j, j) then some 0 else g x) g p = if p.1 = p.2 ∧ p.1 ∈ js then some 0 else g p
  | [], g, p => by simp
  | j :: js, g, p => by
    rw [List.foldl_cons, diag_fold js]
    by_cases h1 : p.1 = p.2 ∧ p.1 ∈ js
    · rw [if_pos h1, if_pos ⟨h1.1, List.mem_cons_of_mem _ h1.2⟩]
    · rw [if_neg h1]
      by_cases hp : p = (j, j)
      · rw [if_pos hp, if_pos (by rw [hp]; exact ⟨rfl, List.mem_cons_self⟩)]
      · rw [if_neg hp, if_neg]
        rintro ⟨e, hm⟩
        rcases List.mem_cons.mp hm with e1 | hm
        · exact hp (Prod.ext e1 (by rw [← e]; exact e1))
        · exact h1 ⟨e, hm⟩
theorem diag_G0 (M : List J2) : M.foldl (fun (g : GF) (j : J2) => fun x => if x = (j, j) then some 0 else g x) (fun _ => none) = G0 M := by
  funext p
  rw [diag_fold]
  rfl
theorem law_gaps_ok {ss : List Int} {es : List T5} (hs : SOk ss) (hw : ∀ w ∈ es, WOk ss w) (he : es.length ≤ 12) {h : MHp} (hh : Hh h) {Q E : MQ} (k : ∀ z, GtOk (mrows 0 ss) z → gG z = gapF ss es → Q (.fd (kG z) (vG z)) h) :
    f__law_gaps [plan ss es] h Q E := by
  have hl := jobs16 hs
  have L := LkOk.ties hs hw
  (unfold f__law_gaps; refine Mini.mFn_i rfl ?_; unfold b__law_gaps; refine Mini.kb_i ?_; walk_at "mx")
  refine jobs_drawP hs.len (fun s h => ⟨by have := (hs.s s h).1; omega, by have := (hs.s s h).2; omega⟩) hh ?_
  (walk_at "mx"; simp only [mD0_at]; walk_at "mx")
  intro ep0
  walk_at "nx"
  refine loop_T (ea := pr2) (fun rest s h' => ∃ z' ep', s = lgS ss h.length (some (plan ss es)) none none none none none ∧ h' = h ++ [dcG z' ep'] ∧ GtOk (mrows 0 ss) z' ∧ (∀ b ∈ rest, b ∈ mrows 0 ss) ∧ rest.foldl (fun (g : GF) (j : J2) => fun x => if x = (j, j) then some 0 else g x) (gG z') = G0 (mrows 0 ss)) ⟨([], fun _ => 0), ep0, rfl, rfl, .nil, fun _ h => h, diag_G0 _⟩ (fun _ _ _ _ => okT_i) (fun s h' ⟨z1, ep1, e1, e2, hz1, _, e3⟩ => ?_) fun b rest s h' K ⟨z', ep', e1, e2, hz', hb, e3⟩ hK => ?_
  rotate_left
  · subst e1 e2
    walk_at "mx"
    (walk_at "kbi"; unfold l__law_gaps_1; walk_at "mx")
    (walk_at "mx"; simp only [gIxD_at]; walk_at "mx")
    walk_at "sd"
    have hb1 := hb b List.mem_cons_self
    refine setD_i (k := kv (b, b)) (ks := kG z') (vs := vG z') getK (tk_kv (b, b)) (by have := hz'.len hl; show (z'.1.map kv).length < _; rw [List.length_map]; omega) fun ep2 => ?_
    rw [put_kG (d := 0), put_vG, setK]
    refine hK _ _ ⟨setG z' (b, b) 0, ep2, rfl, rfl, hz'.set hb1 hb1 0, fun c hc => hb c (List.mem_cons_of_mem _ hc), ?_⟩
    rw [gG_set]
    exact e3
  subst e1 e2
  walk_at "nx"
  refine call_i ?_
  refine law_links_ok hs.len he hs.s (hh_snoc hh (by simp [Cell.lo, lo_kG, lo_vG])) ?_
  walk_at "mx"
  refine loop_T (ea := wv) (fun rest s h' => ∃ z' ep', s = lgS ss h.length none none none none none none ∧ h' = h ++ [dcG z' ep'] ∧ GtOk (mrows 0 ss) z' ∧ (∀ w ∈ rest, w ∈ tiesOf ss es) ∧ lnkF rest (gG z') = lnkF (tiesOf ss es) (G0 (mrows 0 ss))) ⟨z1, ep1, rfl, rfl, hz1, fun _ h => h, by rw [show gG z1 = _ from e3]⟩ (fun _ _ _ _ => okT_i) (fun s h' ⟨z2, ep2, e1, e2, hz2, _, e3⟩ => ?_) fun w rest s h' K ⟨z', ep', e1, e2, hz', hb, e3⟩ hK => ?_
  rotate_left
  · subst e1 e2
    unfold wv
    walk_at "mx"
    (walk_at "kbi"; unfold l__law_gaps_2; walk_at "mx")
    (walk_at "mx"; simp only [mDm_at]; walk_at "mx")
    refine ⟨by rw [dct_ref getK] <;> rfl, ?_⟩
    walk_at "mx"
    walk_at "sd"
    refine get_min (p := (j1 w, j2 w)) ?_
    (walk_at "mx"; simp only [gIxD_at]; walk_at "mx")
    walk_at "sd"
    have hw1 := hb w List.mem_cons_self
    refine put_min (p := (j1 w, j2 w)) (d := dst w) (hz'.len hl) (fun ep2 => ?_) _ (by
      show (if (gG z' (j1 w, j2 w)).getD (dst w) < dst w then (gG z' (j1 w, j2 w)).getD (dst w) else dst w) = min (dst w) ((gG z' (j1 w, j2 w)).getD (dst w))
      generalize (gG z' (j1 w, j2 w)).getD (dst w) = g
      generalize dst w = d
      split <;> omega)
    refine hK _ _ ⟨_, ep2, rfl, rfl, hz'.set (L.a w hw1) (L.b w hw1) _, fun c hc => hb c (List.mem_cons_of_mem _ hc), ?_⟩
    rw [← e3]
    show lnkF rest (gG (miG z' (j1 w, j2 w) (dst w))) = lnkF rest (relx (gG z') (j1 w, j2 w) (dst w))
    rw [gG_mi]
  subst e1 e2
  walk_at "nx"
  refine loop_T (ea := pr2) (fun rest s h' => ∃ z' ep', s = lgS ss h.length none none none none none none ∧ h' = h ++ [dcG z' ep'] ∧ GtOk (mrows 0 ss) z' ∧ (∀ b ∈ rest, b ∈ mrows 0 ss) ∧ rest.foldl (midF (mrows 0 ss)) (gG z') = gapF ss es) ⟨z2, ep2, rfl, rfl, hz2, fun _ h => h, by rw [show gG z2 = _ from e3]; rfl⟩ (fun _ _ _ _ => okT_i) (fun s h' ⟨z, ep, e1, e2, hz, _, e3⟩ => ?_) fun b rest s h' K ⟨z', ep', e1, e2, hz', hb, e3⟩ hK => ?_
  · subst e1 e2
    walk_at "nx"
    have hf : frz h.length (h ++ [dcG z ep]) 8 (.ref h.length) = .fd (kG z) (vG z) := by
      show (if h.length < h.length then _ else _) = _
      rw [if_neg (Nat.lt_irrefl _), getK]
      show MV.fd (kG z) ((vG z).map (frz _ _ 7)) = _
      have m2 : ∀ n h k, (vG z).map (frz n h k) = vG z := fun n h k => by
        unfold vG
        rw [List.map_map]
        exact List.map_congr_left fun w _ => frz_sok k rfl
      rw [m2]
    refine ⟨by simp, hh_old hh, ?_, ?_⟩
    · rw [hf]
      show (loAll _ (kG z) && loAll _ (vG z)) = true
      rw [lo_kG, lo_vG]
      rfl
    · rw [hf, List.take_left' rfl]
      exact k z hz e3
  · subst e1 e2
    walk_at "mx"
    walk_at "kbi"
    refine lgap_mid hs hz' (hb b List.mem_cons_self) fun z2 ep2 hz2 e2 => hK _ _ ⟨z2, ep2, rfl, rfl, hz2, fun c hc => hb c (List.mem_cons_of_mem _ hc), ?_⟩
    rw [e2]
    exact e3
end Lw
namespace Lw
open PySem PySem.Spec PyProof.Rows L2 Mini PySem.W
theorem popG {js : List J2} {j : J2} : ((js ++ [j]).map pr2)[((js ++ [j]).map pr2).length - 1]? = some (pr2 j) := by simp
theorem popG' {js : List J2} {j : J2} : ((js ++ [j]).map pr2)[(js ++ [j]).length - 1]? = some (pr2 j) := by simp
theorem dropG {js : List J2} {j : J2} : ((js ++ [j]).map pr2).dropLast = js.map pr2 := by rw [List.map_append]; simp
theorem seq_n {h : MHp} {n : Nat} {xs : List MV} (e : h[n]? = some (.lst xs)) : seqOf h (.ref n) = some xs := by
  show lstOf h (.ref n) = _
  exact lst_r e
theorem neG_nil {js : List J2} {n : Nat} {h : MHp} {Q : MQ} (hc : h[n]? = some (.lst (js.map pr2))) (k : Q (.bl (!js.isEmpty)) h) : @o2 neM (.ref n) (.fl []) h ⟨Q⟩ :=
  ne_by (v' := .fl (js.map pr2)) (u' := .fl []) (der_cell hc) rfl (pr_ok js) (by decide +kernel) (b := js.isEmpty) (by cases js <;> simp [MV.eqv, eqvAll]) k
abbrev dsS (ss : List Int) (es : List T5) (b : J2) (n : Nat) : MSt := [none, none, none, some (pr2 b), some (.ref n), some (.ref (n + 1)), some (.fl ((tiesOf ss es).map wv)), none, none]
structure StI (ss : List Int) (es : List T5) (a : J2) (due seen : List J2) : Prop where
  job : ∀ j, j ∈ due ∨ j ∈ seen → JOk ss j
  st : a ∈ due ∨ a ∈ seen
  clo : ∀ j ∈ seen, ∀ t ∈ zt ss es, j1 t = j → j2 t ∈ due ∨ j2 t ∈ seen
  len : due.length + 30 * miss (mrows 0 ss) seen ≤ 481
  nd : seen.Nodup
def stNew (ss : List Int) (es : List T5) (j : J2) : List J2 := (((tiesOf ss es).filter fun t => decide (j1 t = j) && decide (dst t = 0)).map j2)
theorem mem_stNew {ss : List Int} {es : List T5} {j x : J2} : x ∈ stNew ss es j ↔ ∃ t ∈ zt ss es, j1 t = j ∧ j2 t = x := by
  unfold stNew zt
  simp only [List.mem_map, List.mem_filter, Bool.and_eq_true, decide_eq_true_eq]
  constructor
  · rintro ⟨t, ⟨h1, h2, h3⟩, h4⟩
    exact ⟨t, ⟨h1, h3⟩, h2, h4⟩
  · rintro ⟨t, ⟨h1, h3⟩, h2, h4⟩
    exact ⟨t, ⟨h1, h2, h3⟩, h4⟩
theorem StI.old {ss : List Int} {es : List T5} {a : J2} {due seen : List J2} {j : J2} (I : StI ss es a (due ++ [j]) seen) (h : j ∈ seen) : StI ss es a due seen where
  job := fun i hi => I.job i (hi.elim (fun z => .inl (List.mem_append_left _ z)) .inr)
  st := by
    rcases I.st with z | z
    · rcases List.mem_append.mp z with z | z
      · exact .inl z
      · rw [List.mem_singleton.mp z]; exact .inr h
    · exact .inr z
  clo := fun i hi t ht e => by
    rcases I.clo i hi t ht e with z | z
    · rcases List.mem_append.mp z with z | z
      · exact .inl z
      · rw [List.mem_singleton.mp z]; exact .inr h
    · exact .inr z
  len := by have := I.len; rw [List.length_append] at this; omega
  nd := I.nd
theorem StI.new {ss : List Int} {es : List T5} (hs : SOk ss) (hw : ∀ w ∈ es, WOk ss w) (he : es.length ≤ 12) {a : J2} {due seen : List J2} {j : J2} (I : StI ss es a (due ++ [j]) seen) (h : j ∉ seen) :
    StI ss es a (due ++ stNew ss es j) (seen ++ [j]) ∧ (due ++ stNew ss es j).length + 30 * miss (mrows 0 ss) (seen ++ [j]) < (due ++ [j]).length + 30 * miss (mrows 0 ss) seen := by
  have hj := I.job j (.inl (by simp))
  have hlt := miss_lt (mem_members.mpr hj) h (new := [j]) (by simp)
  have hnl : (stNew ss es j).length ≤ 28 := by
    unfold stNew
    rw [List.length_map]
    exact Nat.le_trans (List.length_filter_le _ _) (tiesOf_len hs.len he hs.s)
  have hlen := I.len
  rw [List.length_append, List.length_singleton] at hlen
  refine ⟨⟨fun i hi => ?_, ?_, fun i hi t ht e => ?_, ?_, ?_⟩, ?_⟩
  · rcases hi with z | z
    · rcases List.mem_append.mp z with z | z
      · exact I.job i (.inl (List.mem_append_left _ z))
      · obtain ⟨t, ht, _, rfl⟩ := mem_stNew.mp z
        exact (zt_job hs hw ht).2
    · rcases List.mem_append.mp z with z | z
      · exact I.job i (.inr z)
      · rw [List.mem_singleton.mp z]; exact hj
  · rcases I.st with z | z
    · rcases List.mem_append.mp z with z | z
      · exact .inl (List.mem_append_left _ z)
      · exact .inr (List.mem_append_right _ z)
    · exact .inr (List.mem_append_left _ z)
  · rcases List.mem_append.mp hi with z | z
    · rcases I.clo i z t ht e with y | y
      · rcases List.mem_append.mp y with y | y
        · exact .inl (List.mem_append_left _ y)
        · exact .inr (List.mem_append_right _ y)
      · exact .inr (List.mem_append_left _ y)
    · rw [List.mem_singleton.mp z] at e
      exact .inl (List.mem_append_right _ (mem_stNew.mpr ⟨t, ht, e, rfl⟩))
  · rw [List.length_append]; omega
  · refine List.nodup_append.mpr ⟨I.nd, by simp, fun x hx y hy e => ?_⟩
    rw [List.mem_singleton.mp hy] at e
    exact h (e ▸ hx)
  · rw [List.length_append, List.length_append, List.length_singleton]; omega
theorem does_stick_ok {ss : List Int} {es : List T5} (hs : SOk ss) (hw : ∀ w ∈ es, WOk ss w) (he : es.length ≤ 12) {wl : MV} (hwl : wl = .fl (es.map wv)) {a b : J2} (ha : a ∈ mrows 0 ss) {h : MHp} (hh : Hh h) {Q E : MQ}
    (k : ∀ seen : List J2, a ∈ seen → (∀ j ∈ seen, ∀ t ∈ zt ss es, j1 t = j → j2 t ∈ seen) → Q (.bl (decide (b ∈ seen))) h) : f__law_does_stick [.tup (ss.map .int), wl, pr2 a, pr2 b] h Q E := by
  subst hwl
  have hml : miss (mrows 0 ss) [] ≤ 16 := Nat.le_trans (List.length_filter_le _ _) (jobs16 hs)
  have htl := tiesOf_len hs.len he hs.s
  (unfold f__law_does_stick; refine Mini.mFn_i rfl ?_; unfold b__law_does_stick; refine Mini.kb_i ?_; walk_at "mx")
  walk_at "sd"
  refine call_i ?_
  have hh2 : ∀ {xs ys : List J2}, Hh (h ++ [Cell.lst (xs.map pr2), Cell.lst (ys.map pr2)]) := fun {xs ys} => by
    have := hh_lst (hh_lst hh (pr_sok xs)) (pr_sok ys)
    rwa [List.append_assoc] at this
  rw [List.append_assoc]
  refine law_links_ok hs.len he hs.s (hh2 (xs := [a]) (ys := [])) ?_
  walk_at "nx"
  rw [show (h ++ [Cell.lst [pr2 a]]).length = h.length + 1 by simp]
  refine whl_I (fun n s h' => ∃ due seen : List J2, s = dsS ss es b h.length ∧ h' = h ++ [.lst (due.map pr2), .lst (seen.map pr2)] ∧ StI ss es a due seen ∧ n = due.length + 30 * miss (mrows 0 ss) seen) (1 + 30 * miss (mrows 0 ss) []) ⟨[a], [], rfl, rfl, ⟨fun j hj => ?_, .inl (by simp), (fun j hj => nomatch hj), by simp; omega, by simp⟩, rfl⟩ fun n s h' K ⟨due, seen, e1, e2, I, hn⟩ hK => ?_
  · rcases hj with hj | hj
    · rw [List.mem_singleton.mp hj]; exact mem_members.mp ha
    · exact nomatch hj
  · subst e1 e2
    walk_at "mx"
    walk_at "sd"
    refine neG_nil getK1 ?_
    walk_at "mx"
    refine ifB_i (fun e => ?_) fun e => ?_
    · have e0 : due = [] := by simpa using e
      subst e0
      walk_at "nx"
      refine in_pr (xs := seen) (seq_n getK2) ?_
      refine mdF_sok (h := h) (u := [.lst ([].map pr2), .lst (seen.map pr2)]) rfl hh rfl (k seen ?_ fun j hj t ht e => ?_)
      · rcases I.st with z | z
        · exact nomatch z
        · exact z
      · rcases I.clo j hj t ht e with z | z
        · exact nomatch z
        · exact z
    · have e0 : due ≠ [] := by simpa using e
      walk_at "kbi"
      unfold l__law_does_stick_1
      obtain ⟨due, j, rfl⟩ : ∃ d j, due = d ++ [j] := ⟨due.dropLast, due.getLast e0, (List.dropLast_concat_getLast e0).symm⟩
      (walk_at "mx"; simp only [popG', popG]; walk_at "mx")
      rw [dropG]
      walk_at "nx"
      have hlen := I.len
      rw [List.length_append, List.length_singleton] at hlen
      refine notIn_pr (xs := seen) (seq_n getK2) ?_
      walk_at "mx"
      refine ifB_i (fun e => ?_) fun e => ?_
      · have hj : j ∈ seen := by simpa using e
        walk_at "nx"
        refine hK _ _ _ ?_ ⟨due, seen, rfl, rfl, I.old hj, rfl⟩
        rw [hn, List.length_append, List.length_singleton]
        omega
      · have hj : j ∉ seen := by simpa using e
        walk_at "nx"
        have hsl : seen.length ≤ 16 := by
          have := ndup_le I.nd fun x hx => mem_members.mpr (I.job x (.inr hx))
          have := jobs16 hs
          omega
        walk_at "sd"
        obtain ⟨I2, lt⟩ := I.new hs hw he hj
        walk_at "nx"
        refine cp_filter_map (ea := wv) (eb := pr2) (fun t => decide (j1 t = j) && decide (dst t = 0)) j2 okT_i (by omega) ?_ fun t ht acc K2 hA h1 h2 => ?_
        · walk_at "mx"
          have hfl := List.length_filter_le (fun t => decide (j1 t = j) && decide (dst t = 0)) (tiesOf ss es)
          walk_at "sd"
          refine hK _ _ _ (by rw [hn]; exact lt) ⟨due ++ stNew ss es j, seen ++ [j], rfl, ?_, I2, rfl⟩
          unfold stNew
          simp only [List.map_append, List.map_cons, List.map_nil]
        · (walk_at "mx"; simp only [o_wv0]; walk_at "mx")
          refine oG_eq ?_
          walk_at "mx"
          by_cases c1 : j1 t = j
          · rw [decide_eq_true c1]
            (walk_at "mx"; simp only [o_wv2]; walk_at "mx")
            by_cases c2 : dst t = 0
            · have e2 : (dst t == 0) = true := by simpa using c2
              rw [e2]
              (walk_at "mx"; simp only [o_wv1]; walk_at "mx")
              exact ⟨hA, h1 (by rw [decide_eq_true c1, decide_eq_true c2]; rfl)⟩
            · have e2 : (dst t == 0) = false := by simpa using c2
              rw [e2]
              walk_at "mx"
              exact h2 (by rw [decide_eq_false c2, Bool.and_false])
          · rw [decide_eq_false c1]
            walk_at "mx"
            exact h2 (by rw [decide_eq_false c1, Bool.false_and])
end Lw
namespace Lw
open PySem PySem.Spec PyProof.Rows L2 Mini PySem.W
abbrev enS (ss : List Int) (ws : List T5) : MSt := [some (.ref 1), none, some (.tup (ss.map .int)), none, some (.fl (ws.map wv)), some (.fl ((mrows 0 ss).map pr2)), none, none, none, none]
theorem ixP0 {j : J2} {h : MHp} {Q : MQ} : @o2 ixM (pr2 j) (.int 0) h ⟨Q⟩ = Q (.int j.1) h := propext ix_pr0
theorem DInv.add {ss : List Int} {ws : List T5} (I : DInv ss ws) {w : T5} (hw : WOk ss w) (hS : Sound (w :: (ws ++ rows 0 ss))) (e : w ∉ ws) : DInv ss (ws ++ [w]) := by
  refine ⟨fun u hu => ?_, ?_, hS.mono fun u hu => ?_⟩
  · rcases List.mem_append.mp hu with hu | hu
    · exact I.w u hu
    · rw [List.mem_singleton.mp hu]; exact hw
  · rw [List.nodup_append]
    refine ⟨I.nd, by simp, fun x hx y hy e3 => ?_⟩
    rw [List.mem_singleton.mp hy] at e3
    exact e (e3 ▸ hx)
  · rcases List.mem_append.mp hu with hu | hu
    · rcases List.mem_append.mp hu with hu | hu
      · exact List.mem_cons_of_mem _ (List.mem_append_left _ hu)
      · rw [List.mem_singleton.mp hu]; exact List.mem_cons_self
    · exact List.mem_cons_of_mem _ (List.mem_append_right _ hu)
def enA : MS := (mAsg (mOp2 plusM (mVar 4) (mOp2 mulM2 (mLst (aCons (mTup (aCons (mVar 7) (aCons (mVar 8) (aCons (mVar 6) aNil)))) aNil)) (mB intM (aCons (mOp2 notInSeqM (mTup (aCons (mVar 7) (aCons (mVar 8) (aCons (mVar 6) aNil)))) (mVar 4)) aNil)))) (gN 4))
def mkT (fi se : J2) (d : Int) : T5 := (fi.1, fi.2, se.1, se.2, d)
theorem en_app {ws : List T5} (hl : ws.length ≤ 11) {x0 x1 x2 x3 x5 x9 : Option MV} {fi se : J2} {d : Int} {h : MHp} {D : MD}
    (k : D.nx [x0, x1, x2, x3, some (.fl ((if mkT fi se d ∈ ws then ws else ws ++ [mkT fi se d]).map wv)), x5, some (.int d), some (pr2 fi), some (pr2 se), x9] h) :
    enA [x0, x1, x2, x3, some (.fl (ws.map wv)), x5, some (.int d), some (pr2 fi), some (pr2 se), x9] h D := by
  obtain ⟨N, R, B, C, X⟩ := D
  unfold enA
  walk_at "mx"
  walk_at "sd"
  refine notIn_wv (w := mkT fi se d) (xs := ws) rfl ?_
  walk_at "mx"
  by_cases e : mkT fi se d ∈ ws
  · rw [decide_eq_true e]
    walk_at "mx"
    refine ⟨⟨by decide, by decide, by decide⟩, ?_⟩
    walk_at "mx"
    refine ⟨by simp; exact smallLine (by omega), ?_⟩
    rw [if_pos e] at k
    simpa using k
  · rw [decide_eq_false e]
    walk_at "mx"
    refine ⟨⟨by decide, by decide, smallLine (by decide)⟩, ?_⟩
    walk_at "mx"
    refine ⟨by simp; exact smallLine (by omega), ?_⟩
    rw [if_neg e, List.map_append] at k
    exact k
theorem en_step {cs : List Int} {t : MHp} {ss : List Int} {ws : List T5} {a v : Int} (ht : TOk t) (hs : SOk ss) (I : DInv ss ws) (hl : ws.length ≤ 11) (ha : 0 ≤ a) (hb : a + 10 < 2 ^ 30) {x : Option MV} {D : MD}
    (k : ∀ ws' a' v', DInv ss ws' → ws'.length ≤ ws.length + 1 → a ≤ a' → a' ≤ a + 4 → D.nx (enS ss ws') (pen cs a' v' t)) :
    l__law_endless_1 [some (.ref 1), none, some (.tup (ss.map .int)), x, some (.fl (ws.map wv)), some (.fl ((mrows 0 ss).map pr2)), none, none, none, none] (pen cs a v t) D := by
  obtain ⟨N, R, B, C, X⟩ := D
  have hjl := jobs16 hs
  have hne : mrows 0 ss ≠ [] := fun e => by
    have h1 := hs.s (ss.head hs.ne) (List.head_mem _)
    have : (0, 0) ∈ mrows 0 ss := mem_members.mpr ⟨⟨by decide, by have := List.length_pos_iff.mpr hs.ne; omega⟩, by decide, (hs.sz (q := 0) (by decide) (by have := List.length_pos_iff.mpr hs.ne; omega)).1⟩
    rw [e] at this
    cases this
  unfold l__law_endless_1
  walk_at "mx"
  refine call_i ?_
  refine oneT (ea := pr2) ht ha (by omega) pr_sok1 hne (by omega) fun fi a1 v1 hfi g1 g2 => ?_
  walk_at "mx"
  refine call_i ?_
  refine oneT (ea := pr2) ht (by omega) (by omega) pr_sok1 hne (by omega) fun se a2 v2 hse g3 g4 => ?_
  walk_at "mx"
  walk_at "nx"
  walk_at "sd"
  refine call_i ?_
  refine oneI [0, 0, 0, 1, 1, 2, 3] ht (by omega) (by omega) (by simp) (by simp) fun d a3 v3 hd g5 g6 => ?_
  have hd : 0 ≤ d ∧ d ≤ 3 := by
    simp only [List.mem_cons, List.not_mem_nil, or_false] at hd
    omega
  walk_at "nx"
  (walk_at "mx"; simp only [ixP0]; walk_at "mx")
  (walk_at "mx"; simp only [ixP0]; walk_at "mx")
  refine ifB_i (fun e => ?_) fun e => ?_
  · walk_at "nx"
    exact k ws a3 v3 I (by omega) (by omega) (by omega)
  · have hne : fi.1 ≠ se.1 := by simpa using e
    have wok : ∀ d', 0 ≤ d' ∧ d' ≤ 3 → WOk ss (mkT fi se d') := fun d' h => ⟨mem_members.mp hfi, mem_members.mp hse, hne, h⟩
    have fin : ∀ (d' a' v' : Int), 0 ≤ d' ∧ d' ≤ 3 → Sound (mkT fi se d' :: (ws ++ rows 0 ss)) → a ≤ a' → a' ≤ a + 4 → N (enS ss (if mkT fi se d' ∈ ws then ws else ws ++ [mkT fi se d'])) (pen cs a' v' t) := fun d' a' v' h1 hS h2 h3 => by
      by_cases e2 : mkT fi se d' ∈ ws
      · rw [if_pos e2]
        exact k ws a' v' I (by omega) h2 h3
      · rw [if_neg e2]
        exact k _ a' v' (I.add (wok d' h1) hS e2) (by rw [List.length_append]; exact Nat.le_refl _) h2 h3
    walk_at "nx"
    by_cases hd0 : d = 0
    · subst hd0
      walk_at "mx"
      walk_at "sd"
      refine call_i ?_
      refine does_stick_ok (es := ws) hs I.w (by omega) rfl hse (pen_Hh ht cs a3 v3) fun seen f1 f2 => ?_
      walk_at "mx"
      refine ifB_i (fun e2 => ?_) fun e2 => ?_
      · walk_at "nx"
        refine take_ok ht (by omega) (by omega) (by decide) (by decide) fun r a4 v4 r0 r1 h3 h4 => ?_
        walk_at "mx"
        walk_at "kbi"
        refine en_app hl ?_
        exact fin (1 + r) a4 v4 (by omega) (sound_pos I.snd (by show (1 + r : Int) ≠ 0; omega)) (by omega) (by omega)
      · have e2 : fi ∉ seen := by simpa using e2
        walk_at "nx"
        refine en_app hl ?_
        refine fin 0 a3 v3 (by decide) (sound_add I.snd (· ∈ seen) (fun t ht h0 hj => f2 _ hj t (mem_zt.mpr ⟨List.mem_append.mp ht, h0⟩) rfl) f1 e2) (by omega) (by omega)
    · have e2 : (d == 0) = false := by simpa using hd0
      rw [e2]
      walk_at "nx"
      refine en_app hl ?_
      exact fin d a3 v3 hd (sound_pos I.snd hd0) (by omega) (by omega)
theorem law_endless_ok {most : Int} (hm0 : 0 ≤ most) (hm : most ≤ 12) {cs : List Int} {a pv : Int} {t : MHp} (ht : TOk t) (ha : 0 ≤ a) (hb : a + 100 < 2 ^ 30) {Q E : MQ}
    (k : ∀ (ss : List Int) (es : List T5) a' v', POk ss es → (es.length : Int) ≤ most → a ≤ a' → a' ≤ a + 100 → Q (plan ss es) (pen cs a' v' t)) : f__law_endless [.ref 1, .int most] (pen cs a pv t) Q E := by
  (unfold f__law_endless; refine Mini.mFn_i rfl ?_; unfold b__law_endless; refine Mini.kb_i ?_; walk_at "mx")
  walk_at "sd"
  refine call_i ?_
  refine oneI [1, 2, 2, 3, 3, 4] ht ha (by omega) (by simp) (by simp) fun n a1 v1 hn h1 h2 => ?_
  have hn : 1 ≤ n ∧ n ≤ 4 := by
    simp only [List.mem_cons, List.not_mem_nil, or_false] at hn
    omega
  walk_at "mx"
  refine ⟨⟨by omega, by omega⟩, ?_⟩
  refine cp_ind (ea := MV.int) (fun xs acc h => ∃ (ss : List Int) (a' v' : Int), acc = ss.map .int ∧ h = pen cs a' v' t ∧ (∀ x ∈ ss, 1 ≤ x ∧ x ≤ 4) ∧ ss.length + xs.length = n.toNat ∧ a1 ≤ a' ∧ a' ≤ a1 + ss.length) ⟨[], a1, v1, rfl, rfl, (fun _ h => nomatch h), by rw [irng_len]; simp, Int.le_refl _, by simp⟩ (fun _ _ _ _ => okT_i) (fun acc h ⟨ss, a2, v2, e0, e, h3, h4, h5, h6⟩ => ?_) fun x xs acc h K ⟨ss, a2, v2, e0, e, h3, h4, h5, h6⟩ hK => ?_
  · subst e e0
    rw [List.length_nil] at h4
    have hs : SOk ss := ⟨fun e => by rw [e, List.length_nil] at h4; omega, by omega, h3⟩
    walk_at "nx"
    walk_at "sd"
    refine jobs_drawP hs.len (fun s h => ⟨by have := (hs.s s h).1; omega, by have := (hs.s s h).2; omega⟩) (pen_Hh ht cs a2 v2) ?_
    walk_at "mx"
    walk_at "nx"
    refine call_i ?_
    refine take_ok ht (by omega) (by omega) (by omega) (by omega) fun r a3 v3 r0 r1 h7 h8 => ?_
    walk_at "mx"
    refine ⟨⟨by omega, by omega⟩, ?_⟩
    refine loop_T (ea := MV.int) (fun rest s h => ∃ ws a' v', s = enS ss ws ∧ h = pen cs a' v' t ∧ DInv ss ws ∧ (ws.length : Int) + rest.length ≤ most ∧ a3 ≤ a' ∧ a' + 4 * rest.length ≤ a3 + 48) ⟨[], a3, v3, rfl, rfl, ⟨(fun _ h => nomatch h), List.nodup_nil, sound_rows ss h3⟩, by rw [irng_len, List.length_nil]; omega, Int.le_refl _, by rw [irng_len]; omega⟩ (fun _ _ _ _ => okT_i) (fun s h ⟨ws, a', v', e1, e2, I, l1, l2, l3⟩ => ?_) fun x rest s h K ⟨ws, a', v', e1, e2, I, l1, l2, l3⟩ hK => ?_
    · subst e1 e2
      rw [List.length_nil] at l1 l3
      walk_at "nx"
      refine ⟨_, _, rfl, rfl, wv_sort (by omega), ?_⟩
      rw [srt_W]
      walk_at "mx"
      walk_at "sd"
      exact fin_sok (pen_Hh ht cs a' v') (plan_sok ss (srt ws)) (k ss (srt ws) a' v' (I.plan hs (by omega)) (by rw [show (srt ws).length = ws.length from (List.mergeSort_perm ws leW).length_eq]; omega) (by omega) (by omega))
    · subst e1 e2
      rw [List.length_cons] at l1 l3
      walk_at "mx"
      walk_at "kbi"
      refine en_step ht hs I (by omega) (by omega) (by omega) fun ws' a'' v'' I' q1 q2 q3 => hK _ _ ⟨ws', a'', v'', rfl, rfl, I', by omega, by omega, by omega⟩
  · subst e e0
    rw [List.length_cons] at h4
    walk_at "mx"
    walk_at "sd"
    refine call_i ?_
    refine oneI [1, 1, 2, 2, 3, 4] ht (by omega) (by omega) (by simp) (by simp) fun y a3 v3 hy h7 h8 => ?_
    have hy : 1 ≤ y ∧ y ≤ 4 := by
      simp only [List.mem_cons, List.not_mem_nil, or_false] at hy
      omega
    refine ⟨smallLine (by simp; omega), hK _ _ ⟨ss ++ [y], a3, v3, by rw [List.map_append] <;> rfl, rfl, fun z hz => ?_, by rw [List.length_append, List.length_singleton]; omega, by omega, by rw [List.length_append, List.length_singleton]; omega⟩⟩
    rcases List.mem_append.mp hz with hz | hz
    · exact h3 z hz
    · rw [List.mem_singleton.mp hz]; exact hy
end Lw
namespace Lw
open PySem PySem.Spec PyProof.Rows L2 Mini PySem.W
end Lw
namespace Lw
open PySem PySem.Spec PyProof.Rows L2 Mini

end Lw
namespace Lw
open PySem PySem.Spec PyProof.Rows L2 Mini PySem.W
end Lw
namespace Lw
open PySem PySem.Spec PyProof.Rows L2 Mini PySem.W
end Lw
namespace Mini
open PySem PySem.Spec PyProof.Rows L2
end Mini
namespace Lw
open PySem PySem.Spec PyProof.Rows L2 Mini PySem.W
theorem in_wvo {w : T5} {xs : List T5} {u : MV} {h : MHp} {Q : MQ} (hu : seqOf h u = some (xs.map wv)) (q : Q (.bl (decide (w ∈ xs))) h) : @o2 inSeqM (wv w) u h ⟨Q⟩ := in_wv hu q
theorem tokG : TOk [] := fun _ h => nomatch h
end Lw
namespace Lw
end Lw
namespace Lw
open PySem PySem.Spec PyProof.Rows L2 Mini

end Lw
namespace Lw
open PySem PySem.Spec PyProof.Rows L2 Mini PySem.W
def hRows (f : J2 → Int) (q : Nat) : List Int → List (List Int)
  | [] => []
  | s :: ss => ((irng 0 s).map fun p => f ((q : Int), p)) :: hRows f (q + 1) ss
def rowV (r : List Int) : MV := .tup (r.map .int)
end Lw
namespace Lw
open PySem PySem.Spec PyProof.Rows L2 Mini PySem.W
def isIV (v : MV) : Bool := match v with
  | .int _ => true
  | _ => false
def rowB (own : MV) (s : Int) : Bool := match own with
  | .tup hs => decide ((hs.length : Int) = s) && hs.all isIV
  | _ => false
def Fit : List (List Int) → List Int → Prop
  | [], [] => True
  | r :: m, s :: ss => (r.length : Int) = s ∧ Fit m ss
  | _, _ => False
theorem Fit.at : ∀ {m : List (List Int)} {ss : List Int}, Fit m ss → ∀ {i : Nat} {s : Int}, ss[i]? = some s → ∃ r, m[i]? = some r ∧ (r.length : Int) = s
  | [], [], _, i, s, h => by simp at h
  | r :: m, s :: ss, f, 0, t, h => by simp at h; exact ⟨r, rfl, by rw [← h]; exact f.1⟩
  | r :: m, s :: ss, f, i + 1, t, h => by
    rw [List.getElem?_cons_succ] at h
    obtain ⟨r', h1, h2⟩ := Fit.at f.2 h
    exact ⟨r', by rw [List.getElem?_cons_succ]; exact h1, h2⟩
end Lw
namespace Lw
open PySem PySem.Spec PyProof.Rows L2 Mini PySem.W
theorem Fit.h {f : J2 → Int} : ∀ {ss : List Int} {k : Nat}, (∀ s ∈ ss, 1 ≤ s) → Fit (hRows f k ss) ss
  | [], _, _ => trivial
  | s :: ss, k, h => by
    refine ⟨?_, Fit.h (k := k + 1) fun x hx => h x (List.mem_cons_of_mem _ hx)⟩
    rw [List.length_map, irng_len]
    have := h s List.mem_cons_self
    omega
theorem Fit.len : ∀ {m : List (List Int)} {ss : List Int}, Fit m ss → m.length = ss.length
  | [], [], _ => rfl
  | _ :: _, _ :: _, f => by rw [List.length_cons, List.length_cons, Fit.len f.2]
theorem Fit.rows : ∀ {m : List (List Int)} {ss : List Int}, Fit m ss → ((m.map rowV).zip ss).all (fun p => rowB p.1 p.2) = true
  | [], [], _ => rfl
  | r :: m, s :: ss, f => by
    rw [List.map_cons, List.zip_cons_cons, List.all_cons, Fit.rows f.2, Bool.and_true]
    show (decide (((r.map MV.int).length : Int) = s) && (r.map MV.int).all isIV) = true
    rw [List.length_map, decide_eq_true f.1, Bool.true_and, List.all_eq_true]
    intro x hx
    obtain ⟨i, _, rfl⟩ := List.mem_map.mp hx
    rfl
end Lw
namespace Lw
end Lw
namespace Lw
end Lw
namespace Lw
theorem fwF_back {M : List J2} {L : List T5} (h : LkOk M L) {b : J2} {w : T5} (hw : w ∈ L) {x : Int} (e : fwF M L (j2 w, b) = some x) : ∃ y, fwF M L (j1 w, b) = some y ∧ y ≤ dst w + x :=
  fwF_min h ((Row.one hw).append (fwF_row h e)) (h.a w hw)
end Lw
namespace Mini
open PySem PySem.Spec PyProof.Rows L2
section
variable {X : Cx} {o e : Expr} {es : List Expr} {to te : TE} {ta : TA} {x : Str} {p p' p1 p2 pos : Pos} {C0 : Addr}
end
section
variable {Y : Lay} {W : WX} {X : Cx}
end
section
variable {Y : Lay} {W : WX} {X : Cx}
end
end Mini
namespace Mini
open PySem PySem.Spec PyProof.Rows L2

end Mini
namespace Mini
open PySem PySem.Spec PyProof.Rows L2
end Mini
namespace Lw
open PySem PySem.Spec PyProof.Rows L2 Mini

end Lw
namespace Lw
open PySem PySem.Spec PyProof.Rows L2 Mini PySem.W
end Lw
namespace Lw
open PySem PySem.Spec PyProof.Rows L2 Mini PySem.W
section
variable {M : List J2} {L : List T5}
theorem rank_row (h : LkOk M L) {r : J2 → Nat} (hr : RankOf L r) {a b : J2} {d : Int} (q : Row L a b d) : d = 0 → r a ≤ r b := by
  induction q with
  | nil => intro _; exact Nat.le_refl _
  | cons hw q ih =>
    intro e
    have d1 := h.d _ hw
    have d2 := q.nn h
    have := hr _ hw (by omega)
    have := ih (by omega)
    omega
theorem rank_lt (h : LkOk M L) {r : J2 → Nat} (hr : RankOf L r) {a b : J2} (q : Row L a b 0) (ne : a ≠ b) : r a < r b := by
  generalize hd : (0 : Int) = d at q
  cases q with
  | nil => exact absurd rfl ne
  | cons hw q =>
    have d1 := h.d _ hw
    have d2 := q.nn h
    have := hr _ hw (by omega)
    have := rank_row h hr q (by omega)
    omega
theorem circ_pos (h : LkOk M L) {r : J2 → Nat} (hr : RankOf L r) {b : J2} {t : T5} (ht : t ∈ L) (e : j1 t = b) {g : Int} (q : Row L (j2 t) b g) : 1 ≤ dst t + g := by
  have d1 := h.d _ ht
  have d2 := q.nn h
  by_cases z : dst t + g = 0
  · have a := hr _ ht (by omega)
    have c := rank_row h hr q (by omega)
    rw [e] at a
    omega
  · omega
end
theorem row_along {ss : List Int} {L : List T5} (hL : ∀ t ∈ rows 0 ss, t ∈ L) {q : Int} : ∀ (n : Nat) {p : Int}, JOk ss (q, p) → p + n < sz ss q → Row L (q, p) (q, p + n) 0
  | 0, p, _, _ => by rw [show p + ((0 : Nat) : Int) = p by omega]; exact .nil _
  | n + 1, p, h, hp => by
    have h1 : p + 1 < sz ss q := by omega
    have hl := hL _ (row_link h h1)
    have h2 : JOk ss (q, p + 1) := ⟨h.1, by have := h.2.1; show 0 ≤ p + 1; simp only at this; omega, h1⟩
    have := Row.cons hl (row_along hL (q := q) (p := p + 1) n h2 (by omega))
    rw [show p + ((n + 1 : Nat) : Int) = p + 1 + n by omega]
    exact this
theorem own_circ {ss : List Int} {L : List T5} (hL : ∀ t ∈ rows 0 ss, t ∈ L) {b : J2} (hb : JOk ss b) : ∃ t ∈ L, j1 t = b ∧ Row L (j2 t) b (1 - dst t) := by
  obtain ⟨q, p⟩ := b
  obtain ⟨⟨a1, a2⟩, b1, b2⟩ := id hb
  simp only at a1 a2 b1 b2
  have hlast : (q, sz ss q - 1, q, 0, 1) ∈ rows 0 ss := mem_rows.mpr ⟨q.toNat, _, at_sz a1 a2, mem_row.mpr (.inr (by rw [Nat.zero_add, Int.toNat_of_nonneg a1]))⟩
  have h0 : JOk ss (q, 0) := ⟨⟨a1, a2⟩, by show (0 : Int) ≤ 0; omega, by show (0 : Int) < sz ss q; omega⟩
  have r2 : Row L (q, 0) (q, p) 0 := by
    have := row_along hL p.toNat h0 (by omega)
    rwa [show (0 : Int) + (p.toNat : Int) = p by omega] at this
  by_cases e : p + 1 < sz ss q
  · refine ⟨_, hL _ (row_link hb e), rfl, ?_⟩
    have h2 : JOk ss (q, p + 1) := ⟨⟨a1, a2⟩, by show 0 ≤ p + 1; omega, e⟩
    have r1 := row_along hL (sz ss q - 1 - (p + 1)).toNat h2 (by omega)
    rw [show p + 1 + ((sz ss q - 1 - (p + 1)).toNat : Int) = sz ss q - 1 by omega] at r1
    have r3 := Row.cons (hL _ hlast) r2
    have := r1.append r3
    exact this
  · have ep : p = sz ss q - 1 := by omega
    refine ⟨_, hL _ hlast, by show (q, sz ss q - 1) = (q, p); rw [ep], ?_⟩
    exact r2
def lstG (G : GF) (b m : J2) : Option Int := if m = b then some 1 else G (m, b)
def ndT (G : GF) (w t : T5) : Bool := !(decide (j1 t = j1 w) && match lstG G (j2 w) (j2 t) with | none => false | some x => decide (dst t + x ≤ dst w))
def needB (G : GF) (L : List T5) (w : T5) : Bool := L.all (ndT G w)
theorem needB_iff {G : GF} {L : List T5} {w : T5} : needB G L w = true ↔ ∀ t ∈ L, j1 t = j1 w → ∀ x, lstG G (j2 w) (j2 t) = some x → dst w < dst t + x := by
  unfold needB
  rw [List.all_eq_true]
  constructor
  · intro h t ht e x hx
    have := h t ht
    unfold ndT at this
    rw [hx, decide_eq_true e] at this
    simp at this
    omega
  · intro h t ht
    unfold ndT
    by_cases e : j1 t = j1 w
    · have := h t ht e
      rw [decide_eq_true e]
      cases hx : lstG G (j2 w) (j2 t) with
      | none => rfl
      | some x =>
        have := this x hx
        simp
        omega
    · rw [decide_eq_false e]
      rfl
def lneedB (G : GF) (L : List T5) (w : T5) : Bool := L.all fun t => L.all fun u => !(decide (j1 u = j2 t) && decide (j1 t = j1 w) && match G (j2 u, j2 w) with | none => false | some x => decide (dst t + dst u + x ≤ dst w))
theorem lneedB_iff {G : GF} {L : List T5} {w : T5} : lneedB G L w = true ↔ ∀ t ∈ L, ∀ u ∈ L, j1 u = j2 t → j1 t = j1 w → ∀ x, G (j2 u, j2 w) = some x → dst w < dst t + dst u + x := by
  unfold lneedB
  simp only [List.all_eq_true]
  constructor
  · intro h t ht u hu e1 e2 x hx
    have := h t ht u hu
    rw [hx, decide_eq_true e1, decide_eq_true e2] at this
    simp at this
    omega
  · intro h t ht u hu
    by_cases e1 : j1 u = j2 t
    · by_cases e2 : j1 t = j1 w
      · have := h t ht u hu e1 e2
        rw [decide_eq_true e1, decide_eq_true e2]
        cases hx : G (j2 u, j2 w) with
        | none => rfl
        | some x =>
          have := this x hx
          simp
          omega
      · rw [decide_eq_false e2]
        simp
    · rw [decide_eq_false e1]
      rfl
theorem need_eq {ss : List Int} {L : List T5} (hs : SOk ss) (h : LkOk (mrows 0 ss) L) (hL : ∀ t ∈ rows 0 ss, t ∈ L) (hS : Sound L) {w : T5} (hb : j2 w ∈ mrows 0 ss) : lneedB (fwF (mrows 0 ss) L) L w = needB (fwF (mrows 0 ss) L) L w := by
  obtain ⟨r, hr⟩ := hS
  rw [Bool.eq_iff_iff, lneedB_iff, needB_iff]
  constructor
  · intro k t ht e x hx
    unfold lstG at hx
    by_cases eb : j2 t = j2 w
    · rw [if_pos eb] at hx
      cases hx
      obtain ⟨u, hu, eu, ru⟩ := own_circ hL (mem_members.mp hb)
      obtain ⟨g, hg, lg⟩ := fwF_min h ru (h.b u hu)
      have := k t ht u hu (eu.trans eb.symm) e g hg
      omega
    · rw [if_neg eb] at hx
      obtain ⟨u, hu, eu, g, hg, hg2⟩ := good_ex h eb hx
      rw [hx] at hg2
      have e3 := Option.some.inj hg2
      have := k t ht u hu eu e g hg
      omega
  · intro k t ht u hu e1 e2 x hx
    have rx := fwF_row h hx
    by_cases eb : j2 t = j2 w
    · have := k t ht e2 1 (by unfold lstG; rw [if_pos eb])
      have c := circ_pos h hr (b := j2 w) hu (e1.trans eb) rx
      omega
    · obtain ⟨y, hy, ly⟩ := fwF_back h hu hx
      rw [e1] at hy
      have := k t ht e2 y (by unfold lstG; rw [if_neg eb]; exact hy)
      omega
theorem Row.mono {L L' : List T5} (hs : ∀ t ∈ L', t ∈ L) {a b : J2} {d : Int} (r : Row L' a b d) : Row L a b d := by
  induction r with
  | nil => exact .nil _
  | cons hw _ ih => exact .cons (hs _ hw) ih
theorem need_mono {M : List J2} {L L' : List T5} (h : LkOk M L) (h' : LkOk M L') (hs : ∀ t ∈ L', t ∈ L) {w : T5} (k : needB (fwF M L) L w = true) : needB (fwF M L') L' w = true := by
  rw [needB_iff] at k ⊢
  intro t ht e x hx
  unfold lstG at hx
  by_cases eb : j2 t = j2 w
  · rw [if_pos eb] at hx
    exact k t (hs t ht) e x (by unfold lstG; rw [if_pos eb]; exact hx)
  · rw [if_neg eb] at hx
    have r := (fwF_row h' hx).mono hs
    obtain ⟨y, hy, ly⟩ := fwF_min h r (h'.b t ht)
    have := k t (hs t ht) e y (by unfold lstG; rw [if_neg eb]; exact hy)
    omega
theorem POk.filter {ss : List Int} {es : List T5} (P : POk ss es) (p : T5 → Bool) : POk ss (es.filter p) := by
  have nd : es.Nodup := by rw [P.asc]; unfold Lw.asc; exact ((List.mergeSort_perm _ _).nodup_iff).mpr (nodup_eraseDups es)
  have hpw : es.Pairwise fun a b => leW a b = true := by rw [P.asc]; exact sort_pairwise lewv_total _
  have e : srt (es.filter p) = es.filter p := List.mergeSort_of_pairwise (hpw.filter p)
  have I : DInv ss (es.filter p) := ⟨fun w hw => P.w w (List.mem_filter.mp hw).1, nd.filter _, P.snd.mono fun t ht => by
    rcases List.mem_append.mp ht with h | h
    · exact List.mem_append.mpr (.inl (List.mem_filter.mp h).1)
    · exact List.mem_append.mpr (.inr h)⟩
  have := I.plan P.s (Nat.le_trans (List.length_filter_le _ _) P.len)
  rwa [e] at this
end Lw
namespace Lw
open PySem PySem.Spec PyProof.Rows L2 Mini PySem.W
def F1 (G : GF) (t u : T5) (g : GF) (job : J2) : GF := match G (j2 u, job) with
  | none => g
  | some x => relx g (j1 t, job) (dst t + dst u + x)
def F2 (M : List J2) (G : GF) (t : T5) (g : GF) (u : T5) : GF := if j1 u = j2 t then M.foldl (F1 G t u) g else g
def F3 (M : List J2) (L : List T5) (G : GF) (g : GF) (t : T5) : GF := L.foldl (F2 M G t) g
def shortF (M : List J2) (L : List T5) (G : GF) : GF := L.foldl (F3 M L G) fun _ => none
def thr (g : GF) (p : P2) (d : Int) : Bool := match g p with
  | none => true
  | some x => decide (d < x)
theorem thr_relx {g : GF} {p0 p : P2} {d0 d : Int} : thr (relx g p0 d0) p d = (thr g p d && (!decide (p0 = p) || decide (d < d0))) := by
  unfold thr relx
  by_cases e : p = p0
  · subst e
    rw [if_pos rfl]
    cases g p with
    | none => simp
    | some x =>
      simp
      rw [Bool.eq_iff_iff]
      simp
      omega
  · rw [if_neg e, decide_eq_false (fun e' => e e'.symm)]
    simp
theorem fold_T {α : Type} {f : GF → α → GF} {T : GF → Bool} {c : α → Bool} (hf : ∀ g x, T (f g x) = (T g && c x)) : ∀ (xs : List α) (g : GF), T (xs.foldl f g) = (T g && xs.all c)
  | [], g => by simp
  | x :: xs, g => by rw [List.foldl_cons, fold_T hf xs, hf, List.all_cons, Bool.and_assoc]
theorem short_need {M : List J2} {L : List T5} {G : GF} {w : T5} (hb : j2 w ∈ M) : thr (shortF M L G) (j1 w, j2 w) (dst w) = lneedB G L w := by
  have h1 : ∀ t u g job, thr (F1 G t u g job) (j1 w, j2 w) (dst w) = (thr g (j1 w, j2 w) (dst w) && match G (j2 u, job) with | none => true | some x => (!decide ((j1 t, job) = (j1 w, j2 w)) || decide (dst w < dst t + dst u + x))) := fun t u g job => by
    unfold F1
    cases G (j2 u, job) with
    | none => simp
    | some x => exact thr_relx
  have h2 : ∀ t g u, thr (F2 M G t g u) (j1 w, j2 w) (dst w) = (thr g (j1 w, j2 w) (dst w) && (if j1 u = j2 t then M.all (fun job => match G (j2 u, job) with | none => true | some x => (!decide ((j1 t, job) = (j1 w, j2 w)) || decide (dst w < dst t + dst u + x))) else true)) := fun t g u => by
    unfold F2
    split
    · exact fold_T (T := fun g => thr g (j1 w, j2 w) (dst w)) (h1 t u) M g
    · simp
  have h3 : ∀ g t, thr (F3 M L G g t) (j1 w, j2 w) (dst w) = (thr g (j1 w, j2 w) (dst w) && L.all fun u => (if j1 u = j2 t then M.all (fun job => match G (j2 u, job) with | none => true | some x => (!decide ((j1 t, job) = (j1 w, j2 w)) || decide (dst w < dst t + dst u + x))) else true)) := fun g t =>
    fold_T (T := fun g => thr g (j1 w, j2 w) (dst w)) (h2 t) L g
  have h4 := fold_T (T := fun g => thr g (j1 w, j2 w) (dst w)) h3 L fun _ => none
  rw [show thr (shortF M L G) (j1 w, j2 w) (dst w) = _ from h4, show thr (fun _ => none) (j1 w, j2 w) (dst w) = true from rfl, Bool.true_and, Bool.eq_iff_iff, lneedB_iff]
  simp only [List.all_eq_true]
  constructor
  · intro k t ht u hu e1 e2 x hx
    have := k t ht u hu
    rw [if_pos e1, List.all_eq_true] at this
    have := this _ hb
    rw [hx, e2] at this
    simpa using this
  · intro k t ht u hu
    split
    · next e1 =>
      rw [List.all_eq_true]
      intro job hj
      cases hx : G (j2 u, job) with
      | none => rfl
      | some x =>
        by_cases e2 : (j1 t, job) = (j1 w, j2 w)
        · injection e2 with e3 e4
          subst e4
          have := k t ht u hu e1 e3 x hx
          simp [this]
        · simp [e2]
    · rfl
abbrev shS (ss : List Int) (es : List T5) (z : Gt) (n : Nat) (x4 x5 x6 x7 x8 x9 x10 x11 : Option MV) : MSt := [some (plan ss es), some (.fd (kG z) (vG z)), some (.ref n), some (.fl ((tiesOf ss es).map wv)), x4, x5, x6, x7, x8, x9, x10, x11]
theorem sh_job {ss : List Int} {es : List T5} (hs : SOk ss) {z : Gt} {G : GF} (ez : gG z = G) {h : MHp} {y : Gt} (hy : GtOk (mrows 0 ss) y) {ep : Nat} {t u : T5} (ht : j1 t ∈ mrows 0 ss) {x5 : Option MV} {job : J2} (hj : job ∈ mrows 0 ss) {D : MD}
    (k : ∀ y' ep', GtOk (mrows 0 ss) y' → gG y' = F1 G t u (gG y) job → D.nx (shS ss es z h.length (some (pr2 (j1 t))) x5 (some (.int (dst t))) none (some (pr2 (j2 u))) (some (.int (dst u))) none none) (h ++ [dcG y' ep'])) :
    l__law_short_rows_1 (shS ss es z h.length (some (pr2 (j1 t))) x5 (some (.int (dst t))) none (some (pr2 (j2 u))) (some (.int (dst u))) (some (pr2 job)) none) (h ++ [dcG y ep]) D := by
  obtain ⟨N, R, B, C, X⟩ := D
  have hl := hy.len (jobs16 hs)
  unfold l__law_short_rows_1
  walk_at "mx"
  walk_at "sd"
  refine inD_i (show dctOf _ (.fd (kG z) (vG z)) = some (kG z, vG z) from rfl) (tk_kv (j2 u, job)) has_G ?_
  rw [ez]
  walk_at "mx"
  cases e1 : G (j2 u, job) with
  | none =>
    (walk_at "mx"; simp only [Option.isSome_none]; walk_at "mx")
    walk_at "nx"
    exact k y ep hy (by unfold F1; rw [e1])
  | some x =>
    (walk_at "mx"; simp only [Option.isSome_some]; walk_at "mx")
    walk_at "nx"
    walk_at "sd"
    refine ixD_i (v := .fd (kG z) (vG z)) rfl (tk_kv (j2 u, job)) (by rw [get_G, ez, e1]; rfl) ?_
    walk_at "nx"
    (walk_at "mx"; simp only [mDm_at]; walk_at "mx")
    refine ⟨by rw [dct_ref getK] <;> rfl, ?_⟩
    walk_at "mx"
    walk_at "sd"
    refine get_min (p := (j1 t, job)) ?_
    (walk_at "mx"; simp only [gIxD_at]; walk_at "mx")
    walk_at "sd"
    refine put_min (p := (j1 t, job)) (d := dst t + dst u + x) hl (fun ep' => ?_) _ (by split <;> omega)
    refine k _ ep' (hy.set ht hj _) ?_
    unfold F1
    rw [e1]
    exact gG_mi
theorem sh_u {ss : List Int} {es : List T5} (hs : SOk ss) {z : Gt} {G : GF} (ez : gG z = G) {h : MHp} (hh : Hh h) {y : Gt} (hy : GtOk (mrows 0 ss) y) {ep : Nat} {t u : T5} (ht : j1 t ∈ mrows 0 ss) {D : MD}
    (k : ∀ y' ep', GtOk (mrows 0 ss) y' → gG y' = F2 (mrows 0 ss) G t (gG y) u → D.nx (shS ss es z h.length (some (pr2 (j1 t))) (some (pr2 (j2 t))) (some (.int (dst t))) none none none none none) (h ++ [dcG y' ep'])) :
    l__law_short_rows_2 (shS ss es z h.length (some (pr2 (j1 t))) (some (pr2 (j2 t))) (some (.int (dst t))) (some (pr2 (j1 u))) (some (pr2 (j2 u))) (some (.int (dst u))) none none) (h ++ [dcG y ep]) D := by
  obtain ⟨N, R, B, C, X⟩ := D
  unfold l__law_short_rows_2
  walk_at "mx"
  refine oG_eq ?_
  walk_at "mx"
  refine ifB_i (fun e => ?_) fun e => ?_
  · have e := of_decide_eq_true e
    walk_at "nx"
    refine call_i ?_
    refine jobs_drawP hs.len (fun s h => ⟨by have := (hs.s s h).1; omega, by have := (hs.s s h).2; omega⟩) (hh_snoc hh (by simp [Cell.lo, lo_kG, lo_vG])) ?_
    walk_at "mx"
    refine loop_T (ea := pr2) (fun rest s h' => ∃ y' ep', s = shS ss es z h.length (some (pr2 (j1 t))) (some (pr2 (j2 t))) (some (.int (dst t))) none (some (pr2 (j2 u))) (some (.int (dst u))) none none ∧ h' = h ++ [dcG y' ep'] ∧ GtOk (mrows 0 ss) y' ∧ (∀ b ∈ rest, b ∈ mrows 0 ss) ∧ rest.foldl (F1 G t u) (gG y') = (mrows 0 ss).foldl (F1 G t u) (gG y)) ⟨y, ep, rfl, rfl, hy, fun _ h => h, rfl⟩ (fun _ _ _ _ => okT_i) (fun s h' ⟨y', ep', e1, e2, hy', _, e3⟩ => ?_) fun b rest s h' K ⟨y', ep', e1, e2, hy', hb, e3⟩ hK => ?_
    · subst e1 e2
      walk_at "mx"
      refine k y' ep' hy' ?_
      unfold F2
      rw [if_pos e]
      exact e3
    · subst e1 e2
      walk_at "mx"
      walk_at "kbi"
      refine sh_job hs ez hy' ht (hb b List.mem_cons_self) fun y2 ep2 hy2 e2 => hK _ _ ⟨y2, ep2, rfl, rfl, hy2, fun c hc => hb c (List.mem_cons_of_mem _ hc), ?_⟩
      rw [e2]
      exact e3
  · have e := of_decide_eq_false e
    walk_at "nx"
    refine k y ep hy ?_
    unfold F2
    rw [if_neg e]
theorem sh_t {ss : List Int} {es : List T5} (hs : SOk ss) {z : Gt} {G : GF} (ez : gG z = G) {h : MHp} (hh : Hh h) {y : Gt} (hy : GtOk (mrows 0 ss) y) {ep : Nat} {t : T5} (ht : j1 t ∈ mrows 0 ss) {D : MD}
    (k : ∀ y' ep', GtOk (mrows 0 ss) y' → gG y' = F3 (mrows 0 ss) (tiesOf ss es) G (gG y) t → D.nx (shS ss es z h.length none none none none none none none none) (h ++ [dcG y' ep'])) :
    l__law_short_rows_3 (shS ss es z h.length (some (pr2 (j1 t))) (some (pr2 (j2 t))) (some (.int (dst t))) none none none none none) (h ++ [dcG y ep]) D := by
  obtain ⟨N, R, B, C, X⟩ := D
  unfold l__law_short_rows_3
  walk_at "mx"
  refine loop_T (ea := wv) (fun rest s h' => ∃ y' ep', s = shS ss es z h.length (some (pr2 (j1 t))) (some (pr2 (j2 t))) (some (.int (dst t))) none none none none none ∧ h' = h ++ [dcG y' ep'] ∧ GtOk (mrows 0 ss) y' ∧ rest.foldl (F2 (mrows 0 ss) G t) (gG y') = (tiesOf ss es).foldl (F2 (mrows 0 ss) G t) (gG y)) ⟨y, ep, rfl, rfl, hy, rfl⟩ (fun _ _ _ _ => okT_i) (fun s h' ⟨y', ep', e1, e2, hy', e3⟩ => ?_) fun u rest s h' K ⟨y', ep', e1, e2, hy', e3⟩ hK => ?_
  · subst e1 e2
    walk_at "mx"
    exact k y' ep' hy' e3
  · subst e1 e2
    unfold wv
    walk_at "mx"
    walk_at "kbi"
    refine sh_u hs ez hh hy' ht fun y2 ep2 hy2 e2 => hK _ _ ⟨y2, ep2, rfl, rfl, hy2, ?_⟩
    rw [e2]
    exact e3
theorem short_rows_ok {ss : List Int} {es : List T5} (P : POk ss es) {z : Gt} (ez : gG z = gapF ss es) {h : MHp} (hh : Hh h) {Q E : MQ} (k : ∀ y, GtOk (mrows 0 ss) y → gG y = shortF (mrows 0 ss) (tiesOf ss es) (gapF ss es) → Q (.fd (kG y) (vG y)) h) :
    f__law_short_rows [plan ss es, .fd (kG z) (vG z)] h Q E := by
  have hs := P.s
  have L := LkOk.ties P.s P.w
  (unfold f__law_short_rows; refine Mini.mFn_i rfl ?_; unfold b__law_short_rows; refine Mini.kb_i ?_; walk_at "mx")
  (walk_at "mx"; simp only [mD0_at]; walk_at "mx")
  intro ep0
  walk_at "mx"
  refine call_i ?_
  refine law_links_ok hs.len P.len hs.s (hh_snoc hh (by simp [Cell.lo, loAll])) ?_
  walk_at "nx"
  refine loop_T (ea := wv) (fun rest s h' => ∃ y' ep', s = shS ss es z h.length none none none none none none none none ∧ h' = h ++ [dcG y' ep'] ∧ GtOk (mrows 0 ss) y' ∧ (∀ w ∈ rest, w ∈ tiesOf ss es) ∧ rest.foldl (F3 (mrows 0 ss) (tiesOf ss es) (gapF ss es)) (gG y') = shortF (mrows 0 ss) (tiesOf ss es) (gapF ss es)) ⟨([], fun _ => 0), ep0, rfl, rfl, .nil, fun _ h => h, rfl⟩ (fun _ _ _ _ => okT_i) (fun s h' ⟨y, ep, e1, e2, hy, _, e3⟩ => ?_) fun w rest s h' K ⟨y', ep', e1, e2, hy', hb, e3⟩ hK => ?_
  · subst e1 e2
    walk_at "nx"
    have hf : frz h.length (h ++ [dcG y ep]) 8 (.ref h.length) = .fd (kG y) (vG y) := by
      show (if h.length < h.length then _ else _) = _
      rw [if_neg (Nat.lt_irrefl _), getK]
      show MV.fd (kG y) ((vG y).map (frz _ _ 7)) = _
      have m2 : ∀ n h k, (vG y).map (frz n h k) = vG y := fun n h k => by
        unfold vG
        rw [List.map_map]
        exact List.map_congr_left fun w _ => frz_sok k rfl
      rw [m2]
    refine ⟨by simp, hh_old hh, ?_, ?_⟩
    · rw [hf]
      show (loAll _ (kG y) && loAll _ (vG y)) = true
      rw [lo_kG, lo_vG]
      rfl
    · rw [hf, List.take_left' rfl]
      exact k y hy e3
  · subst e1 e2
    have hw := hb w List.mem_cons_self
    unfold wv
    walk_at "mx"
    walk_at "kbi"
    refine sh_t hs ez hh hy' (L.a w hw) fun y2 ep2 hy2 e2 => hK _ _ ⟨y2, ep2, rfl, rfl, hy2, fun c hc => hb c (List.mem_cons_of_mem _ hc), ?_⟩
    rw [e2]
    exact e3
def thinL (ss : List Int) (es : List T5) : List T5 := es.filter fun w => needB (gapF ss es) (tiesOf ss es) w
theorem rows_ties {ss : List Int} {es : List T5} : ∀ t ∈ rows 0 ss, t ∈ tiesOf ss es := fun t ht => mem_ties.mpr (.inr ht)
theorem snd_ties {ss : List Int} {es : List T5} (P : POk ss es) : Sound (tiesOf ss es) := P.snd.mono fun t ht => List.mem_append.mpr (mem_ties.mp ht)
theorem thin_ok {ss : List Int} {es : List T5} (P : POk ss es) {h : MHp} (hh : Hh h) {Q E : MQ} (k : Q (plan ss (thinL ss es)) h) : f__law_thin [plan ss es] h Q E := by
  have L := LkOk.ties P.s P.w
  have hle := P.len
  (unfold f__law_thin; refine Mini.mFn_i rfl ?_; unfold b__law_thin; refine Mini.kb_i ?_; walk_at "mx")
  refine call_i ?_
  refine law_gaps_ok P.s P.w P.len hh fun z hz ez => ?_
  walk_at "mx"
  refine call_i ?_
  refine short_rows_ok P ez hh fun y hy ey => ?_
  walk_at "mx"
  walk_at "sd"
  walk_at "nx"
  refine loop_T (ea := wv) (fun rest s h' => ∃ (m : List T5), s = [some (plan ss es), none, some (.fd (kG y) (vG y)), some (.fl (m.map wv))] ∧ h' = h ∧ m.length + rest.length ≤ 12 ∧ (∀ w ∈ rest, w ∈ es) ∧ m ++ rest.filter (fun w => needB (gapF ss es) (tiesOf ss es) w) = thinL ss es) ⟨[], rfl, rfl, by simpa using hle, fun _ h => h, rfl⟩ (fun _ _ _ _ => okT_i) (fun s h' ⟨m, e1, e2, _, _, e3⟩ => ?_) fun w rest s h' K ⟨m, e1, e2, hl, hb, e3⟩ hK => ?_
  · subst e1 e2
    rw [List.filter_nil, List.append_nil] at e3
    subst e3
    walk_at "nx"
    walk_at "sd"
    exact fin_sok hh (plan_sok _ _) k
  · subst e1 e2
    have hw := hb w List.mem_cons_self
    rw [List.length_cons] at hl
    have key : needB (gapF ss es) (tiesOf ss es) w = decide (dst w < (gG y (j1 w, j2 w)).getD (dst w + 1)) := by
      have e1 := need_eq P.s L rows_ties (snd_ties P) (w := w) (mem_members.mpr (P.w w hw).b)
      have e2 := short_need (M := mrows 0 ss) (L := tiesOf ss es) (G := gapF ss es) (w := w) (mem_members.mpr (P.w w hw).b)
      rw [show needB (gapF ss es) (tiesOf ss es) w = _ from e1.symm, show lneedB (fwF (mrows 0 ss) (tiesOf ss es)) (tiesOf ss es) w = _ from e2.symm, ← ey]
      unfold thr
      cases gG y (j1 w, j2 w) with
      | none => rw [Option.getD_none, decide_eq_true (by omega)]
      | some x => rfl
    walk_at "mx"
    (walk_at "kbi"; unfold l__law_thin_1; walk_at "mx")
    (walk_at "mx"; simp only [mDm_at]; walk_at "mx")
    walk_at "sd"
    walk_at "mx"
    (walk_at "mx"; simp only [o_wv0]; walk_at "mx")
    (walk_at "mx"; simp only [o_wv1]; walk_at "mx")
    (walk_at "mx"; simp only [o_wv2]; walk_at "mx")
    refine ⟨rfl, ?_⟩
    walk_at "mx"
    walk_at "sd"
    refine getM2_i (u := kv (j1 w, j2 w)) (x := .int (dst w + 1)) (v := .fd (kG y) (vG y)) rfl (tk_kv (j1 w, j2 w)) (y := .int ((gG y (j1 w, j2 w)).getD (dst w + 1))) (by rw [get_G]; cases gG y (j1 w, j2 w) <;> rfl) ?_
    walk_at "mx"
    (walk_at "mx"; simp only [o_wv2]; walk_at "mx")
    rw [← key]
    rw [List.filter_cons] at e3
    by_cases e : needB (gapF ss es) (tiesOf ss es) w = true
    · rw [if_pos e] at e3
      rw [e]
      walk_at "mx"
      refine ⟨⟨by decide, by decide, smallLine (by decide)⟩, ?_⟩
      walk_at "mx"
      refine ⟨by simp; exact smallLine (by omega), ?_⟩
      have := hK _ h' ⟨m ++ [w], rfl, rfl, by rw [List.length_append, List.length_singleton]; omega, fun c hc => hb c (List.mem_cons_of_mem _ hc), by rw [List.append_assoc]; exact e3⟩
      rw [List.map_append] at this
      exact this
    · rw [if_neg e] at e3
      rw [Bool.not_eq_true] at e
      rw [e]
      walk_at "mx"
      refine ⟨⟨by decide, by decide, by decide⟩, ?_⟩
      walk_at "mx"
      refine ⟨by simp; exact smallLine (by omega), ?_⟩
      have := hK _ h' ⟨m, rfl, rfl, by omega, fun c hc => hb c (List.mem_cons_of_mem _ hc), e3⟩
      simpa using this
end Lw
namespace Lw
open PySem PySem.Spec PyProof.Rows L2 Mini PySem.W
theorem oI_some (d : Int) : oI (some d) = .int d := rfl
theorem is_needed_in_ok {ss : List Int} {es : List T5} {z : Gt} (ez : gG z = gapF ss es) {w : T5} {h : MHp} (hh : Hh h) {Q E : MQ} (k : Q (.bl (needB (gapF ss es) (tiesOf ss es) w)) h) : f_is_needed_in [gapV ss es z, wv w] h Q E := by
  (unfold f_is_needed_in; refine Mini.mFn_i rfl ?_; unfold b_is_needed_in; refine Mini.kb_i ?_; walk_at "mx")
  rw [show wv w = .tup [pr2 (j1 w), pr2 (j2 w), .int (dst w)] from rfl]
  walk_at "mx"
  walk_at "nx"
  (walk_at "mx"; simp only [mFld_at]; walk_at "mx")
  rw [fldS_fi]
  walk_at "mx"
  unfold needB at k
  refine loop_all (ea := wv) (ndT (gapF ss es) w) okT_i (fun e => ?_) fun t ht K hK hF => ?_
  · rw [e] at k
    walk_at "nx"
    exact fin_bl hh k
  · have no : ndT (gapF ss es) w t = false → Q (.bl false) h := fun e => by
      rw [hF e] at k
      exact k
    unfold ndT at hK no
    walk_at "mx"
    (walk_at "kbi"; unfold l_is_needed_in_1; walk_at "mx")
    (walk_at "mx"; simp only [o_wv0]; walk_at "mx")
    refine oG_eq ?_
    walk_at "mx"
    refine ifB_i (fun e => ?_) fun e => ?_
    · have e := of_decide_eq_true e
      rw [decide_eq_true e, Bool.true_and] at hK no
      walk_at "nx"
      (walk_at "mx"; simp only [mMeth_at]; walk_at "mx")
      rw [isIns_fi]
      (walk_at "mx"; simp only [o_wv1]; walk_at "mx")
      refine call_i ?_
      refine gap_find_ok ez hh ?_
      walk_at "nx"
      (walk_at "mx"; simp only [o_wv1]; walk_at "mx")
      refine oG_eq ?_
      walk_at "mx"
      unfold lstG at hK no
      refine ifB_i (fun e2 => ?_) fun e2 => ?_
      · have e2 := of_decide_eq_true e2
        rw [if_pos e2] at hK no
        walk_at "nx"
        (walk_at "mx"; simp only [o_wv2]; walk_at "mx")
        refine ifB_i (fun e3 => ?_) fun e3 => ?_
        · walk_at "nx"
          exact fin_bl hh (no (by show (!decide (dst t + 1 ≤ dst w)) = false; rw [e3]; rfl))
        · walk_at "nx"
          exact hK (by show (!decide (dst t + 1 ≤ dst w)) = true; rw [e3]; rfl)
      · have e2 := of_decide_eq_false e2
        rw [if_neg e2] at hK no
        walk_at "nx"
        cases e4 : gapF ss es (j2 t, j2 w) with
        | none =>
          rw [e4] at hK
          (walk_at "mx"; simp only [show isNoneM (oI none) = true from rfl]; walk_at "mx")
          walk_at "nx"
          exact hK rfl
        | some x =>
          rw [e4] at hK no
          (walk_at "mx"; simp only [show isNoneM (oI (some x)) = false from rfl]; walk_at "mx")
          (walk_at "mx"; simp only [o_wv2]; walk_at "mx")
          rw [oI_some]
          walk_at "mx"
          refine ifB_i (fun e3 => ?_) fun e3 => ?_
          · walk_at "nx"
            exact fin_bl hh (no (by show (!decide (dst t + x ≤ dst w)) = false; rw [e3]; rfl))
          · walk_at "nx"
            exact hK (by show (!decide (dst t + x ≤ dst w)) = true; rw [e3]; rfl)
    · have e := of_decide_eq_false e
      walk_at "nx"
      exact hK (by rw [decide_eq_false e]; rfl)
theorem find_least_endless_ok {ss : List Int} {es : List T5} (P : POk ss es) {h : MHp} (hh : Hh h) {Q E : MQ} (k : Q (plan ss (thinL ss es)) h) : f_find_least_endless [plan ss es] h Q E := by
  have hl := P.len
  (unfold f_find_least_endless; refine Mini.mFn_i rfl ?_; unfold b_find_least_endless; refine Mini.kb_i ?_; walk_at "mx")
  refine call_i ?_
  refine gaps_ok P.s P.w P.len hh fun z hz ez => ?_
  walk_at "nx"
  refine cp_filter (ea := wv) (fun w => needB (gapF ss es) (tiesOf ss es) w) okT_i (by omega) ?_ fun w hw acc K hA k1 k0 => ?_
  rotate_left
  · walk_at "mx"
    refine call_i ?_
    refine is_needed_in_ok ez hh ?_
    walk_at "mx"
    refine ifB_i (fun e => ?_) fun e => ?_
    · walk_at "mx"
      exact ⟨hA, k1 e⟩
    · exact k0 e
  walk_at "mx"
  walk_at "sd"
  exact fin_sok hh (plan_sok _ _) k
end Lw
namespace Lw
open PySem PySem.Spec PyProof.Rows L2 Mini PySem.W
theorem kv_sort {ps : List P2} (hl : ps.length ≤ 16777216) : SortOk (ps.map kv) where
  sok := sokAll_iff.mpr fun x hx => by
    obtain ⟨p, _, rfl⟩ := List.mem_map.mp hx
    rfl
  al := fun d hd d' hd' => by
    rw [List.map_map] at hd hd'
    obtain ⟨p, _, rfl⟩ := List.mem_map.mp hd
    obtain ⟨q, _, rfl⟩ := List.mem_map.mp hd'
    simp [kv, pr2, MV.dat, datAll, alike, alikeAll]
  so := .inl fun d hd => by
    rw [List.map_map] at hd
    obtain ⟨p, _, rfl⟩ := List.mem_map.mp hd
    exact ⟨_, _, rfl⟩
  dp := fun x hx => by
    obtain ⟨p, _, rfl⟩ := List.mem_map.mp hx
    simp [kv, pr2, MV.dat, datAll, PyData.depth, PyData.depthAll]
  len := by rw [List.length_map, sizeLine_eq]; exact hl
def srtK (ps : List P2) : List P2 := ps.mergeSort fun p q => sLe (kv p) (kv q)
theorem srtK_map (ps : List P2) : (ps.map kv).mergeSort sLe = (srtK ps).map kv := (sort_maps kv fun a _ b _ => rfl).symm
theorem mem_srtK {ps : List P2} {p : P2} : p ∈ srtK ps ↔ p ∈ ps := (List.mergeSort_perm ps _).mem_iff
theorem srtK_len (ps : List P2) : (srtK ps).length = ps.length := (List.mergeSort_perm ps _).length_eq
theorem keys_sorted {z : Gt} (hl : z.1.length ≤ 256) {h : MHp} {Q : MQ} (k : Q (.fl ((srtK z.1).map kv)) h) : @oN sortM [.fl (kG z)] h ⟨Q⟩ :=
  ⟨_, _, rfl, rfl, kv_sort (by omega), by
    have : (kG z).mergeSort sLe = (srtK z.1).map kv := srtK_map z.1
    rw [this]
    exact k⟩
structure NI (ss : List Int) (r : J2 → Nat) (ws : List T5) : Prop where
  w : ∀ w ∈ ws, WOk ss w
  nd : ws.Nodup
  rk : RankOf (ws ++ rows 0 ss) r
theorem NI.inv {ss : List Int} {r : J2 → Nat} {ws : List T5} (I : NI ss r ws) : DInv ss ws := ⟨I.w, I.nd, r, I.rk⟩
theorem NI.plan {ss : List Int} (hs : SOk ss) {r : J2 → Nat} {ws : List T5} (I : NI ss r ws) (hl : ws.length ≤ 12) : POk ss (srt ws) := I.inv.plan hs hl
theorem NI.add {ss : List Int} {r : J2 → Nat} {ws : List T5} (I : NI ss r ws) {w : T5} (hw : WOk ss w) (hr : dst w = 0 → r (j1 w) < r (j2 w)) (hn : w ∉ ws) : NI ss r (ws ++ [w]) where
  w := fun x hx => (List.mem_append.mp hx).elim (I.w x) fun h => by rw [List.mem_singleton.mp h]; exact hw
  nd := List.nodup_append.mpr ⟨I.nd, by simp, fun a ha b hb e => hn (by rw [← List.mem_singleton.mp hb, ← e]; exact ha)⟩
  rk := fun t ht e => by
    rcases List.mem_append.mp ht with h | h
    · rcases List.mem_append.mp h with h | h
      · exact I.rk t (List.mem_append.mpr (.inl h)) e
      · rw [List.mem_singleton.mp h] at e ⊢; exact hr e
    · exact I.rk t (List.mem_append.mpr (.inr h)) e
theorem POk.nd {ss : List Int} {es : List T5} (P : POk ss es) : es.Nodup := by
  rw [P.asc]; unfold Lw.asc; exact ((List.mergeSort_perm _ _).nodup_iff).mpr (nodup_eraseDups es)
theorem NI.of {ss : List Int} {es : List T5} (P : POk ss es) : ∃ r, RankOf (tiesOf ss es) r ∧ ∀ ws, (∀ w ∈ ws, w ∈ es) → ws.Nodup → NI ss r ws := by
  obtain ⟨r, hr⟩ := snd_ties P
  refine ⟨r, hr, fun ws hs hn => ⟨fun w hw => P.w w (hs w hw), hn, fun t ht e => hr t ?_ e⟩⟩
  rcases List.mem_append.mp ht with h | h
  · exact mem_ties.mpr (.inl (hs t h))
  · exact mem_ties.mpr (.inr h)
theorem gap_rank {ss : List Int} {es : List T5} (P : POk ss es) {r : J2 → Nat} (hr : RankOf (tiesOf ss es) r) {w : T5} {g : Int} (hg : gapF ss es (j1 w, j2 w) = some g) (hd : g ≤ dst w) (hne : w.1 ≠ w.2.2.1) (e : dst w = 0) : r (j1 w) < r (j2 w) := by
  have L := LkOk.ties P.s P.w
  have g0 := fwF_nn L hg
  have rw1 := fwF_row L hg
  rw [show g = 0 by omega] at rw1
  exact rank_lt L hr rw1 fun e => hne (congrArg Prod.fst e)
def addW (w : T5) (ws : List T5) : List T5 := if w ∈ ws then ws else ws ++ [w]
theorem addW_len {w : T5} {ws : List T5} : (addW w ws).length ≤ ws.length + 1 := by
  unfold addW
  split
  · omega
  · rw [List.length_append, List.length_singleton]; omega
theorem NI.addW {ss : List Int} {r : J2 → Nat} {ws : List T5} (I : NI ss r ws) {w : T5} (hw : WOk ss w) (hr : dst w = 0 → r (j1 w) < r (j2 w)) : NI ss r (addW w ws) := by
  unfold Lw.addW
  split
  · exact I
  · next h => exact I.add hw hr h
end Lw
namespace Lw
open PySem PySem.Spec PyProof.Rows L2 Mini PySem.W
abbrev wnS (ss : List Int) (es : List T5) (z : Gt) (x2 x3 x5 x6 : Option MV) : MSt := [some (.ref 1), some (plan ss es), x2, x3, some (.fd (kG z) (vG z)), x5, x6]
theorem wn_step {ss : List Int} {es : List T5} (P : POk ss es) {r : J2 → Nat} (hr : RankOf (tiesOf ss es) r) {z : Gt} (ez : gG z = gapF ss es) {ws : List T5} (I : NI ss r ws) (hl : ws.length ≤ 12) {p : P2} (hz : GtOk (mrows 0 ss) z) (hp : p ∈ z.1) {cs : List Int} {a v : Int} (ha : 0 ≤ a) (hb : a + 4 < 2 ^ 30) {D : MD}
    (k : ∀ ws' a' v', NI ss r ws' → ws'.length ≤ 12 → a ≤ a' → a' ≤ a + 2 → D.nx (wnS ss es z none (some (.fl (ws'.map wv))) none none) (pen cs a' v' [])) :
    l__law_with_needless_1 (wnS ss es z (some (kv p)) (some (.fl (ws.map wv))) none none) (pen cs a v []) D := by
  obtain ⟨N, R, B, C, X⟩ := D
  have L := LkOk.ties P.s P.w
  obtain ⟨p1, p2⟩ := hz.mem p hp
  have hg : gapF ss es (p.1, p.2) = some (z.2 p) := by rw [← ez]; unfold gG; rw [if_pos hp]
  have g0 := fwF_nn L hg
  have j1' := mem_members.mp p1
  have j2' := mem_members.mp p2
  unfold l__law_with_needless_1
  walk_at "mx"
  walk_at "sd"
  refine ixD_i (v := .fd (kG z) (vG z)) rfl (tk_kv p) (by rw [get_G, ez, show gapF ss es p = some (z.2 p) from hg]; rfl) ?_
  walk_at "mx"
  refine call_i ?_
  refine take_ok tokG ha (by omega) (by decide) (by decide) fun q a1 v1 q0 q1 h1 h2 => ?_
  walk_at "nx"
  rw [show kv p = MV.tup [pr2 p.1, pr2 p.2] from rfl]
  walk_at "mx"
  (walk_at "mx"; simp only [ixP0]; walk_at "mx")
  (walk_at "mx"; simp only [ixP0]; walk_at "mx")
  refine ifB_i (fun e => ?_) fun e => ?_
  · walk_at "nx"
    exact k ws a1 v1 I hl (by omega) (by omega)
  have ne : p.1.1 ≠ p.2.1 := by simpa using e
  walk_at "mx"
  refine ifB_i (fun e => ?_) fun e => ?_
  rotate_left
  · walk_at "nx"
    exact k ws a1 v1 I hl (by omega) (by omega)
  have l4 := of_decide_eq_true e
  walk_at "mx"
  refine ifB_i (fun e => ?_) fun e => ?_
  rotate_left
  · walk_at "nx"
    exact k ws a1 v1 I hl (by omega) (by omega)
  have l12 := of_decide_eq_true e
  walk_at "mx"
  refine call_i ?_
  refine take_ok tokG (by omega) (by omega) (by decide) (by decide) fun q' a2 v2 q0' q1' h1' h2' => ?_
  walk_at "mx"
  refine ifB_i (fun e => ?_) fun e => ?_
  rotate_left
  · walk_at "nx"
    exact k ws a2 v2 I hl (by omega) (by omega)
  have W : WOk ss (mkT p.1 p.2 (z.2 p + q)) := ⟨j1', j2', ne, by show 0 ≤ z.2 p + q ∧ z.2 p + q ≤ 3; omega⟩
  have hrk := gap_rank P hr (w := mkT p.1 p.2 (z.2 p + q)) (g := z.2 p) hg (by show z.2 p ≤ z.2 p + q; omega) ne
  have I2 := I.addW W hrk
  have hl2 : (addW (mkT p.1 p.2 (z.2 p + q)) ws).length ≤ 12 := by
    have := addW_len (w := mkT p.1 p.2 (z.2 p + q)) (ws := ws)
    omega
  walk_at "nx"
  walk_at "sd"
  walk_at "nx"
  walk_at "sd"
  refine notIn_wv (w := mkT p.1 p.2 (z.2 p + q)) (xs := ws) rfl ?_
  walk_at "mx"
  have fin := k _ a2 v2 I2 hl2 (by omega) (by omega)
  unfold addW at fin
  by_cases e : mkT p.1 p.2 (z.2 p + q) ∈ ws
  · rw [decide_eq_true e]
    walk_at "mx"
    refine ⟨⟨by decide, by decide, by decide⟩, ?_⟩
    walk_at "mx"
    refine ⟨by simp; exact smallLine (by omega), ?_⟩
    rw [if_pos e] at fin
    simpa using fin
  · rw [decide_eq_false e]
    walk_at "mx"
    refine ⟨⟨by decide, by decide, smallLine (by decide)⟩, ?_⟩
    walk_at "mx"
    refine ⟨by simp; exact smallLine (by omega), ?_⟩
    rw [if_neg e, List.map_append] at fin
    exact fin
theorem with_needless_ok {ss : List Int} {es : List T5} (P : POk ss es) {cs : List Int} {a v : Int} (ha : 0 ≤ a) (hb : a + 600 < 2 ^ 30) {Q E : MQ}
    (k : ∀ es' a' v', POk ss es' → a ≤ a' → a' ≤ a + 512 → Q (plan ss es') (pen cs a' v' [])) : f__law_with_needless [.ref 1, plan ss es] (pen cs a v []) Q E := by
  have hle := P.len
  obtain ⟨r, hr, hI⟩ := NI.of P
  (unfold f__law_with_needless; refine Mini.mFn_i rfl ?_; unfold b__law_with_needless; refine Mini.kb_i ?_; walk_at "mx")
  walk_at "sd"
  refine call_i ?_
  refine law_gaps_ok P.s P.w P.len (pen_Hh tokG cs a v) fun z hz ez => ?_
  walk_at "nx"
  refine listD_i (show dctOf _ (.fd (kG z) (vG z)) = some (kG z, vG z) from rfl) ?_
  walk_at "mx"
  have hzl := hz.len (jobs16 P.s)
  refine keys_sorted hzl ?_
  walk_at "mx"
  refine loop_T (ea := kv) (fun rest s h' => ∃ ws a' v', s = wnS ss es z none (some (.fl (ws.map wv))) none none ∧ h' = pen cs a' v' [] ∧ NI ss r ws ∧ ws.length ≤ 12 ∧ (∀ p ∈ rest, p ∈ z.1) ∧ a ≤ a' ∧ a' + 2 * rest.length ≤ a + 512) ⟨es, a, v, rfl, rfl, hI es (fun _ h => h) P.nd, hle, fun p hp => mem_srtK.mp hp, Int.le_refl _, by rw [srtK_len]; omega⟩ (fun _ _ _ _ => okT_i) (fun s h' ⟨ws, a', v', e1, e2, I, hl, _, q1, q2⟩ => ?_) fun p rest s h' K ⟨ws, a', v', e1, e2, I, hl, hp, q1, q2⟩ hK => ?_
  · subst e1 e2
    rw [List.length_nil] at q2
    walk_at "nx"
    refine ⟨_, _, rfl, rfl, wv_sort (by omega), ?_⟩
    rw [srt_W]
    walk_at "mx"
    walk_at "sd"
    exact pen_endS tokG (by simp) (plan_sok _ _) (k _ a' v' (I.plan P.s hl) q1 (by omega))
  · subst e1 e2
    rw [List.length_cons] at q2
    walk_at "mx"
    walk_at "kbi"
    refine wn_step P hr ez I hl hz (hp p List.mem_cons_self) (by omega) (by omega) fun ws' a2 v2 I2 hl2 g1 g2 => hK _ _ ⟨ws', a2, v2, rfl, rfl, I2, hl2, fun c hc => hp c (List.mem_cons_of_mem _ hc), by omega, by omega⟩
theorem least_endless_ok {ss : List Int} {es : List T5} (P : POk ss es) {h : MHp} (hh : Hh h) {Q E : MQ} (k : Q (plan ss (thinL ss es)) h) : f_least_endless [plan ss es] h Q E := by
  (unfold f_least_endless; refine Mini.mFn_i rfl ?_; unfold b_least_endless; refine Mini.kb_i ?_; walk_at "mx")
  refine call_i ?_
  refine require_lasting_ok P hh ?_
  walk_at "nx"
  refine call_i ?_
  refine find_least_endless_ok P hh ?_
  exact fin_sok hh (plan_sok _ _) k
theorem is_needed_wait_ok {ss : List Int} {es : List T5} {w : T5} (P : POk ss es) (hw : w ∈ es) {h : MHp} (hh : Hh h) {Q E : MQ} (k : Q (.bl (needB (gapF ss es) (tiesOf ss es) w)) h) : f_is_needed_wait [plan ss es, wv w] h Q E := by
  (unfold f_is_needed_wait; refine Mini.mFn_i rfl ?_; unfold b_is_needed_wait; refine Mini.kb_i ?_; walk_at "mx")
  refine call_i ?_
  refine require_lasting_ok P hh ?_
  walk_at "nx"
  refine call_i ?_
  (unfold f_is_wait_of_endless; refine Mini.mFn_i rfl ?_; unfold b_is_wait_of_endless; refine Mini.kb_i ?_; walk_at "mx")
  refine linked_ok hh (wv_sok w) ?_
  rw [(P.w w hw).waitB]
  walk_at "mx"
  refine in_wvo (xs := es) rfl ?_
  rw [decide_eq_true hw]
  refine fin_bl hh ?_
  walk_at "nx"
  walk_at "nx"
  refine call_i ?_
  refine gaps_ok P.s P.w P.len hh fun z hz ez => ?_
  walk_at "mx"
  refine call_i ?_
  refine is_needed_in_ok ez hh ?_
  exact fin_bl hh k
theorem thin_idem {ss : List Int} {es : List T5} (P : POk ss es) : thinL ss (thinL ss es) = thinL ss es := by
  have P2 := P.filter fun w => needB (gapF ss es) (tiesOf ss es) w
  refine List.filter_eq_self.mpr fun w hw => ?_
  obtain ⟨h1, h2⟩ := List.mem_filter.mp hw
  refine need_mono (LkOk.ties P.s P.w) (LkOk.ties P2.s P2.w) (fun t ht => ?_) h2
  rcases mem_ties.mp ht with h | h
  · exact mem_ties.mpr (.inl (List.mem_filter.mp h).1)
  · exact mem_ties.mpr (.inr h)
theorem law_true (ns : List Int) (hl : ns.length ≤ 63) : f_law [.sc (ns.map .int)] [] (fun v _ => v = .bl true) (fun _ _ => False) := by
  (unfold f_law; refine Mini.mFn_i rfl ?_; unfold b_law; refine Mini.kb_i ?_; walk_at "mx")
  refine call_i ?_
  refine open_ok fun cs => ?_
  walk_at "nx"
  refine ⟨⟨by decide, by decide⟩, ?_⟩
  refine loop_T (ea := MV.int) (as := irng 0 3) (fun rest s h => ∃ a v, s = [none, some (.ref 1), none, none, none, none, none] ∧ h = pen cs a v [] ∧ 0 ≤ a ∧ a + 800 * rest.length ≤ 2400) ⟨0, 0, rfl, rfl, by omega, by rw [show (irng 0 3).length = 3 from rfl]; omega⟩ (fun _ _ _ _ => okT_i) (fun s h ⟨a2, v2, e1, e2, k1, k2⟩ => ?_) fun x rest s h K ⟨a2, v2, e1, e2, k1, k2⟩ hK => ?_
  · subst e1 e2
    walk_at "nx"
    exact @mdF_sok 0 (fun v _ => v = MV.bl true) (.bl true) [] _ rfl rfl rfl rfl
  · subst e1 e2
    rw [List.length_cons] at k2
    walk_at "mx"
    (walk_at "kbi"; unfold l_law_2; walk_at "mx")
    refine call_i ?_
    refine anew_ok tokG ?_
    walk_at "mx"
    refine call_i ?_
    refine law_endless_ok (by decide) (by decide) tokG k1 (by omega) fun ss es0 a3 v3 P0 hle g1 g2 => ?_
    walk_at "nx"
    refine call_i ?_
    refine anew_ok tokG ?_
    walk_at "mx"
    refine call_i ?_
    refine with_needless_ok P0 (by omega) (by omega) fun es a4 v4 P g3 g4 => ?_
    walk_at "nx"
    have hh := pen_Hh tokG cs a4 v4
    have P2 : POk ss (thinL ss es) := P.filter _
    refine call_i ?_
    refine thin_ok P hh ?_
    walk_at "mx"
    refine repr_ok (plan_gd P) ?_
    walk_at "nx"
    refine call_i ?_
    refine least_endless_ok P hh ?_
    walk_at "mx"
    refine repr_ok (plan_gd P2) ?_
    walk_at "mx"
    refine repr_ok (plan_gd P2) ?_
    walk_at "mx"
    refine call_i ?_
    refine least_endless_ok P2 hh ?_
    rw [thin_idem P]
    walk_at "mx"
    refine repr_ok (plan_gd P2) ?_
    walk_at "mx"
    refine repr_ok (plan_gd P2) ?_
    walk_at "mx"
    walk_at "nx"
    walk_at "nx"
    refine loop_all (ea := wv) (fun _ => true) okT_i (fun _ => ?_) fun w hw K2 hK2 _ => ?_
    · walk_at "nx"
      refine repr_ok (plan_gd P) ?_
      walk_at "mx"
      walk_at "nx"
      exact hK _ _ ⟨a4, v4, rfl, rfl, by omega, by omega⟩
    · walk_at "mx"
      (walk_at "kbi"; unfold l_law_1; walk_at "mx")
      refine call_i ?_
      refine is_needed_wait_ok P hw hh ?_
      walk_at "mx"
      refine repr_ok (gd_bl _) ?_
      walk_at "mx"
      refine in_wvo (xs := thinL ss es) rfl ?_
      have e : decide (w ∈ thinL ss es) = needB (gapF ss es) (tiesOf ss es) w := by
        rw [Bool.eq_iff_iff, decide_eq_true_iff]
        unfold thinL
        rw [List.mem_filter]
        exact ⟨fun h => h.2, fun h => ⟨hw, h⟩⟩
      rw [e]
      walk_at "mx"
      refine repr_ok (gd_bl _) ?_
      walk_at "mx"
      walk_at "nx"
      exact hK2 rfl
end Lw
namespace Lw
open PySem PySem.Spec PyProof.Rows L2 Mini

def d__law_open : He.DefD := ⟨("_law_open", none), "_law_open", "_law_open", defArgs (top 35), defBody (top 35), defScope (top 35), [], []⟩
def d__law_jobs : He.DefD := ⟨("_law_jobs", none), "_law_jobs", "_law_jobs", defArgs (top 39), defBody (top 39), defScope (top 39), [], []⟩
def d__law_spread : He.DefD := ⟨("_law_spread", none), "_law_spread", "_law_spread", defArgs (top 34), defBody (top 34), defScope (top 34), [], []⟩
def d__law_take : He.DefD := ⟨("_law_take", none), "_law_take", "_law_take", defArgs (top 37), defBody (top 37), defScope (top 37), [], []⟩
def d__law_one : He.DefD := ⟨("_law_one", none), "_law_one", "_law_one", defArgs (top 38), defBody (top 38), defScope (top 38), [], []⟩
def d__law_links : He.DefD := ⟨("_law_links", none), "_law_links", "_law_links", defArgs (top 40), defBody (top 40), defScope (top 40), [], []⟩
def d__law_does_stick : He.DefD := ⟨("_law_does_stick", none), "_law_does_stick", "_law_does_stick", defArgs (top 41), defBody (top 41), defScope (top 41), [], []⟩
def d__law_endless : He.DefD := ⟨("_law_endless", none), "_law_endless", "_law_endless", defArgs (top 42), defBody (top 42), defScope (top 42), [], []⟩
def d__law_gaps : He.DefD := ⟨("_law_gaps", none), "_law_gaps", "_law_gaps", defArgs (top 43), defBody (top 43), defScope (top 43), [], []⟩
def d__law_with_needless : He.DefD := ⟨("_law_with_needless", none), "_law_with_needless", "_law_with_needless", defArgs (top 46), defBody (top 46), defScope (top 46), [], []⟩
def d__law_anew : He.DefD := ⟨("_law_anew", none), "_law_anew", "_law_anew", defArgs (top 36), defBody (top 36), defScope (top 36), [], []⟩
def d__law_short_rows : He.DefD := ⟨("_law_short_rows", none), "_law_short_rows", "_law_short_rows", defArgs (top 44), defBody (top 44), defScope (top 44), [], []⟩
def d__law_thin : He.DefD := ⟨("_law_thin", none), "_law_thin", "_law_thin", defArgs (top 45), defBody (top 45), defScope (top 45), [], []⟩
def d_is_ascending : He.DefD := ⟨("is_ascending", none), "is_ascending", "is_ascending", defArgs (top 9), defBody (top 9), defScope (top 9), [], []⟩
def d_is_integer : He.DefD := ⟨("is_integer", none), "is_integer", "is_integer", defArgs (top 5), defBody (top 5), defScope (top 5), [], []⟩
def d_is_between : He.DefD := ⟨("is_between", none), "is_between", "is_between", defArgs (top 6), defBody (top 6), defScope (top 6), [], []⟩
def d_are_endless_sizes : He.DefD := ⟨("are_endless_sizes", none), "are_endless_sizes", "are_endless_sizes", defArgs (top 18), defBody (top 18), defScope (top 18), [], []⟩
def d_is_job_in : He.DefD := ⟨("is_job_in", none), "is_job_in", "is_job_in", defArgs (top 8), defBody (top 8), defScope (top 8), [], []⟩
def d_is_linked_wait : He.DefD := ⟨("is_linked_wait", none), "is_linked_wait", "is_linked_wait", defArgs (top 19), defBody (top 19), defScope (top 19), [], []⟩
def d_is_endless_plan : He.DefD := ⟨("is_endless_plan", none), "is_endless_plan", "is_endless_plan", defArgs (top 20), defBody (top 20), defScope (top 20), [], []⟩
def d_require_endless : He.DefD := ⟨("require_endless", none), "require_endless", "require_endless", defArgs (top 23), defBody (top 23), defScope (top 23), [], []⟩
def d_list_jobs : He.DefD := ⟨("list_jobs", none), "list_jobs", "list_jobs", defArgs (top 10), defBody (top 10), defScope (top 10), [], []⟩
def d_find_links : He.DefD := ⟨("find_links", none), "find_links", "find_links", defArgs (top 21), defBody (top 21), defScope (top 21), [], []⟩
def d_find_zero : He.DefD := ⟨("find_zero", none), "find_zero", "find_zero", defArgs (top 22), defBody (top 22), defScope (top 22), [], []⟩
def d_require_lasting : He.DefD := ⟨("require_lasting", none), "require_lasting", "require_lasting", defArgs (top 24), defBody (top 24), defScope (top 24), [], []⟩
def d_Gaps_shorten : He.DefD := ⟨("Gaps", some "shorten"), "shorten", "Gaps.shorten", defArgs ctop_Gaps_shorten, defBody ctop_Gaps_shorten, defScope ctop_Gaps_shorten, [], []⟩
def d_Gaps___init__ : He.DefD := ⟨("Gaps", some "__init__"), "__init__", "Gaps.__init__", defArgs ctop_Gaps___init__, defBody ctop_Gaps___init__, defScope ctop_Gaps___init__, [], []⟩
def d_Gaps_find : He.DefD := ⟨("Gaps", some "find"), "find", "Gaps.find", defArgs ctop_Gaps_find, defBody ctop_Gaps_find, defScope ctop_Gaps_find, [], []⟩
def d_is_needed_in : He.DefD := ⟨("is_needed_in", none), "is_needed_in", "is_needed_in", defArgs (top 29), defBody (top 29), defScope (top 29), [], []⟩
def d_find_least_endless : He.DefD := ⟨("find_least_endless", none), "find_least_endless", "find_least_endless", defArgs (top 30), defBody (top 30), defScope (top 30), [], []⟩
def d_least_endless : He.DefD := ⟨("least_endless", none), "least_endless", "least_endless", defArgs (top 32), defBody (top 32), defScope (top 32), [], []⟩
def d_is_wait_of_endless : He.DefD := ⟨("is_wait_of_endless", none), "is_wait_of_endless", "is_wait_of_endless", defArgs (top 28), defBody (top 28), defScope (top 28), [], []⟩
def d_is_needed_wait : He.DefD := ⟨("is_needed_wait", none), "is_needed_wait", "is_needed_wait", defArgs (top 31), defBody (top 31), defScope (top 31), [], []⟩
def d_law : He.DefD := ⟨("law", none), "law", "law", defArgs (top 47), defBody (top 47), defScope (top 47), [], []⟩
def fns_0 : List He.DefD := [d__law_open, d__law_jobs, d__law_spread, d__law_take, d__law_one, d__law_links, d__law_does_stick, d__law_endless, d__law_gaps, d__law_with_needless, d__law_anew, d__law_short_rows, d__law_thin, d_is_ascending, d_is_integer, d_is_between, d_are_endless_sizes, d_is_job_in, d_is_linked_wait, d_is_endless_plan, d_require_endless, d_list_jobs, d_find_links, d_find_zero, d_require_lasting, d_Gaps_shorten, d_Gaps___init__, d_Gaps_find, d_is_needed_in, d_find_least_endless]
def fns_1 : List He.DefD := [d_least_endless, d_is_wait_of_endless, d_is_needed_wait, d_law]
def fns : List He.DefD := fns_0 ++ fns_1
def fas_0 : List He.Fa := [.glo "_law_open", .glo "_law_jobs", .glo "_law_spread", .glo "_law_take", .glo "_law_one", .glo "_law_links", .glo "_law_does_stick", .glo "_law_endless", .glo "_law_gaps", .glo "_law_with_needless", .glo "_law_anew", .glo "_law_short_rows", .glo "_law_thin", .glo "is_ascending", .glo "is_integer", .glo "is_between", .glo "are_endless_sizes", .glo "is_job_in", .glo "is_linked_wait", .glo "is_endless_plan", .glo "require_endless", .glo "list_jobs", .glo "find_links", .glo "find_zero", .glo "require_lasting", .glo "Gaps", .glo "Gaps", .glo "Gaps", .glo "is_needed_in", .glo "find_least_endless"]
def fas_1 : List He.Fa := [.glo "least_endless", .glo "is_wait_of_endless", .glo "is_needed_wait", .glo "law", .free "all", .free "any", .free "bool", .free "enumerate", .free "int", .free "isinstance", .free "len", .free "list", .free "min", .free "range", .free "repr", .free "set", .free "sorted", .free "tuple", .int "GREATEST_DISTANCE" 3, .int "GREATEST_SIZE" 4, .int "MOST_LINKED" 12, .glo "Gaps", .cls "Gaps", .mkr "Gaps", .noat "Gaps" "base", .noat "Gaps" "links", .noat "Gaps" "members", .noat "Gaps" "shortest", .meth "Gaps" "shorten", .meth "Gaps" "find"]
def fas : List He.Fa := fas_0 ++ fas_1
abbrev R : PySem.W.OpenRow := PySem.W.OpenLaw.row PySem.Challenge.rw_flagplans_k17_needed_waits_and_least_pla
abbrev hk : PySem.W.Hook := hookM 4 fas fns
def ob (s : PySem.W.SharedT) : He.AlD := obM 4 fas fns (HandSHeadRun.getT s)
theorem ob_eq (s : PySem.W.SharedT) : ob s = hk.obs s.abs := obM_eq (HandSHeadRun.getT_eq s)
def loose_0 : List Str := ["_wall", "PlanError", "UnknownWait", "is_integer", "is_between", "is_job_in", "is_ascending", "list_jobs", "InvalidEndless", "Stuck", "are_endless_sizes", "is_linked_wait", "is_endless_plan", "find_links", "find_zero", "require_endless", "require_lasting", "Gaps", "is_wait_of_endless", "is_needed_in", "find_least_endless", "is_needed_wait", "least_endless", "_law_spread", "_law_open", "_law_anew", "_law_take", "_law_one", "_law_jobs", "_law_links"]
def loose_1 : List Str := ["_law_does_stick", "_law_endless", "_law_gaps", "_law_short_rows", "_law_thin", "_law_with_needless", "GREATEST_SIZE", "MOST_LINKED", "GREATEST_DISTANCE"]
def loose : List Str := loose_0 ++ loose_1
theorem run (w : World) : HandSHeadRun.RunEq R (PySem.W.view R.prog [47]) hk ob 20000 loose w := by
  intro os
  kernel_rfl
theorem facts {K : PySem.W.Frag} {h : Heap} {mg : Str → Option Value} {f : Addr} (X : K.In h) (N : h.Ns mainGlobals mg) (hfa : mg ("law" : Str) = some (.ref f)) (c : He.SaysD fas fns K) : ∃ g : G K mg, g.a_law = f := by
  obtain ⟨d0, F0⟩ := c.def_ 0 (d := d__law_open) rfl
  obtain ⟨d1, F1⟩ := c.def_ 1 (d := d__law_jobs) rfl
  obtain ⟨d2, F2⟩ := c.def_ 2 (d := d__law_spread) rfl
  obtain ⟨d3, F3⟩ := c.def_ 3 (d := d__law_take) rfl
  obtain ⟨d4, F4⟩ := c.def_ 4 (d := d__law_one) rfl
  obtain ⟨d5, F5⟩ := c.def_ 5 (d := d__law_links) rfl
  obtain ⟨d6, F6⟩ := c.def_ 6 (d := d__law_does_stick) rfl
  obtain ⟨d7, F7⟩ := c.def_ 7 (d := d__law_endless) rfl
  obtain ⟨d8, F8⟩ := c.def_ 8 (d := d__law_gaps) rfl
  obtain ⟨d9, F9⟩ := c.def_ 9 (d := d__law_with_needless) rfl
  obtain ⟨d10, F10⟩ := c.def_ 10 (d := d__law_anew) rfl
  obtain ⟨d11, F11⟩ := c.def_ 11 (d := d__law_short_rows) rfl
  obtain ⟨d12, F12⟩ := c.def_ 12 (d := d__law_thin) rfl
  obtain ⟨d13, F13⟩ := c.def_ 13 (d := d_is_ascending) rfl
  obtain ⟨d14, F14⟩ := c.def_ 14 (d := d_is_integer) rfl
  obtain ⟨d15, F15⟩ := c.def_ 15 (d := d_is_between) rfl
  obtain ⟨d16, F16⟩ := c.def_ 16 (d := d_are_endless_sizes) rfl
  obtain ⟨d17, F17⟩ := c.def_ 17 (d := d_is_job_in) rfl
  obtain ⟨d18, F18⟩ := c.def_ 18 (d := d_is_linked_wait) rfl
  obtain ⟨d19, F19⟩ := c.def_ 19 (d := d_is_endless_plan) rfl
  obtain ⟨d20, F20⟩ := c.def_ 20 (d := d_require_endless) rfl
  obtain ⟨d21, F21⟩ := c.def_ 21 (d := d_list_jobs) rfl
  obtain ⟨d22, F22⟩ := c.def_ 22 (d := d_find_links) rfl
  obtain ⟨d23, F23⟩ := c.def_ 23 (d := d_find_zero) rfl
  obtain ⟨d24, F24⟩ := c.def_ 24 (d := d_require_lasting) rfl
  obtain ⟨d25, F25⟩ := c.def_ 25 (d := d_Gaps_shorten) rfl
  obtain ⟨d26, F26⟩ := c.def_ 26 (d := d_Gaps___init__) rfl
  obtain ⟨d27, F27⟩ := c.def_ 27 (d := d_Gaps_find) rfl
  obtain ⟨d28, F28⟩ := c.def_ 28 (d := d_is_needed_in) rfl
  obtain ⟨d29, F29⟩ := c.def_ 29 (d := d_find_least_endless) rfl
  obtain ⟨d30, F30⟩ := c.def_ 30 (d := d_least_endless) rfl
  obtain ⟨d31, F31⟩ := c.def_ 31 (d := d_is_wait_of_endless) rfl
  obtain ⟨d32, F32⟩ := c.def_ 32 (d := d_is_needed_wait) rfl
  obtain ⟨d33, F33⟩ := c.def_ 33 (d := d_law) rfl
  have e := hfa.symm.trans (He.glo_ok X N (c.fact 33 (f := .glo "law") rfl))
  refine ⟨{
    a__law_open := _,
    d__law_open := d0,
    F__law_open := F0,
    g__law_open := He.glo_ok X N (c.fact 0 (f := .glo "_law_open") rfl),
    a__law_jobs := _,
    d__law_jobs := d1,
    F__law_jobs := F1,
    g__law_jobs := He.glo_ok X N (c.fact 1 (f := .glo "_law_jobs") rfl),
    a__law_spread := _,
    d__law_spread := d2,
    F__law_spread := F2,
    g__law_spread := He.glo_ok X N (c.fact 2 (f := .glo "_law_spread") rfl),
    a__law_take := _,
    d__law_take := d3,
    F__law_take := F3,
    g__law_take := He.glo_ok X N (c.fact 3 (f := .glo "_law_take") rfl),
    a__law_one := _,
    d__law_one := d4,
    F__law_one := F4,
    g__law_one := He.glo_ok X N (c.fact 4 (f := .glo "_law_one") rfl),
    a__law_links := _,
    d__law_links := d5,
    F__law_links := F5,
    g__law_links := He.glo_ok X N (c.fact 5 (f := .glo "_law_links") rfl),
    a__law_does_stick := _,
    d__law_does_stick := d6,
    F__law_does_stick := F6,
    g__law_does_stick := He.glo_ok X N (c.fact 6 (f := .glo "_law_does_stick") rfl),
    a__law_endless := _,
    d__law_endless := d7,
    F__law_endless := F7,
    g__law_endless := He.glo_ok X N (c.fact 7 (f := .glo "_law_endless") rfl),
    a__law_gaps := _,
    d__law_gaps := d8,
    F__law_gaps := F8,
    g__law_gaps := He.glo_ok X N (c.fact 8 (f := .glo "_law_gaps") rfl),
    a__law_with_needless := _,
    d__law_with_needless := d9,
    F__law_with_needless := F9,
    g__law_with_needless := He.glo_ok X N (c.fact 9 (f := .glo "_law_with_needless") rfl),
    a__law_anew := _,
    d__law_anew := d10,
    F__law_anew := F10,
    g__law_anew := He.glo_ok X N (c.fact 10 (f := .glo "_law_anew") rfl),
    a__law_short_rows := _,
    d__law_short_rows := d11,
    F__law_short_rows := F11,
    g__law_short_rows := He.glo_ok X N (c.fact 11 (f := .glo "_law_short_rows") rfl),
    a__law_thin := _,
    d__law_thin := d12,
    F__law_thin := F12,
    g__law_thin := He.glo_ok X N (c.fact 12 (f := .glo "_law_thin") rfl),
    a_is_ascending := _,
    d_is_ascending := d13,
    F_is_ascending := F13,
    g_is_ascending := He.glo_ok X N (c.fact 13 (f := .glo "is_ascending") rfl),
    a_is_integer := _,
    d_is_integer := d14,
    F_is_integer := F14,
    g_is_integer := He.glo_ok X N (c.fact 14 (f := .glo "is_integer") rfl),
    a_is_between := _,
    d_is_between := d15,
    F_is_between := F15,
    g_is_between := He.glo_ok X N (c.fact 15 (f := .glo "is_between") rfl),
    a_are_endless_sizes := _,
    d_are_endless_sizes := d16,
    F_are_endless_sizes := F16,
    g_are_endless_sizes := He.glo_ok X N (c.fact 16 (f := .glo "are_endless_sizes") rfl),
    a_is_job_in := _,
    d_is_job_in := d17,
    F_is_job_in := F17,
    g_is_job_in := He.glo_ok X N (c.fact 17 (f := .glo "is_job_in") rfl),
    a_is_linked_wait := _,
    d_is_linked_wait := d18,
    F_is_linked_wait := F18,
    g_is_linked_wait := He.glo_ok X N (c.fact 18 (f := .glo "is_linked_wait") rfl),
    a_is_endless_plan := _,
    d_is_endless_plan := d19,
    F_is_endless_plan := F19,
    g_is_endless_plan := He.glo_ok X N (c.fact 19 (f := .glo "is_endless_plan") rfl),
    a_require_endless := _,
    d_require_endless := d20,
    F_require_endless := F20,
    g_require_endless := He.glo_ok X N (c.fact 20 (f := .glo "require_endless") rfl),
    a_list_jobs := _,
    d_list_jobs := d21,
    F_list_jobs := F21,
    g_list_jobs := He.glo_ok X N (c.fact 21 (f := .glo "list_jobs") rfl),
    a_find_links := _,
    d_find_links := d22,
    F_find_links := F22,
    g_find_links := He.glo_ok X N (c.fact 22 (f := .glo "find_links") rfl),
    a_find_zero := _,
    d_find_zero := d23,
    F_find_zero := F23,
    g_find_zero := He.glo_ok X N (c.fact 23 (f := .glo "find_zero") rfl),
    a_require_lasting := _,
    d_require_lasting := d24,
    F_require_lasting := F24,
    g_require_lasting := He.glo_ok X N (c.fact 24 (f := .glo "require_lasting") rfl),
    a_Gaps_shorten := _,
    d_Gaps_shorten := d25,
    F_Gaps_shorten := F25,
    a_Gaps___init__ := _,
    d_Gaps___init__ := d26,
    F_Gaps___init__ := F26,
    a_Gaps_find := _,
    d_Gaps_find := d27,
    F_Gaps_find := F27,
    a_is_needed_in := _,
    d_is_needed_in := d28,
    F_is_needed_in := F28,
    g_is_needed_in := He.glo_ok X N (c.fact 28 (f := .glo "is_needed_in") rfl),
    a_find_least_endless := _,
    d_find_least_endless := d29,
    F_find_least_endless := F29,
    g_find_least_endless := He.glo_ok X N (c.fact 29 (f := .glo "find_least_endless") rfl),
    a_least_endless := _,
    d_least_endless := d30,
    F_least_endless := F30,
    g_least_endless := He.glo_ok X N (c.fact 30 (f := .glo "least_endless") rfl),
    a_is_wait_of_endless := _,
    d_is_wait_of_endless := d31,
    F_is_wait_of_endless := F31,
    g_is_wait_of_endless := He.glo_ok X N (c.fact 31 (f := .glo "is_wait_of_endless") rfl),
    a_is_needed_wait := _,
    d_is_needed_wait := d32,
    F_is_needed_wait := F32,
    g_is_needed_wait := He.glo_ok X N (c.fact 32 (f := .glo "is_needed_wait") rfl),
    a_law := _,
    d_law := d33,
    F_law := F33,
    g_law := He.glo_ok X N (c.fact 33 (f := .glo "law") rfl),
    n_all := He.free_ok X N (c.fact 34 (f := .free "all") rfl),
    n_any := He.free_ok X N (c.fact 35 (f := .free "any") rfl),
    n_bool := He.free_ok X N (c.fact 36 (f := .free "bool") rfl),
    n_enumerate := He.free_ok X N (c.fact 37 (f := .free "enumerate") rfl),
    n_int := He.free_ok X N (c.fact 38 (f := .free "int") rfl),
    n_isinstance := He.free_ok X N (c.fact 39 (f := .free "isinstance") rfl),
    n_len := He.free_ok X N (c.fact 40 (f := .free "len") rfl),
    n_list := He.free_ok X N (c.fact 41 (f := .free "list") rfl),
    n_min := He.free_ok X N (c.fact 42 (f := .free "min") rfl),
    n_range := He.free_ok X N (c.fact 43 (f := .free "range") rfl),
    n_repr := He.free_ok X N (c.fact 44 (f := .free "repr") rfl),
    n_set := He.free_ok X N (c.fact 45 (f := .free "set") rfl),
    n_sorted := He.free_ok X N (c.fact 46 (f := .free "sorted") rfl),
    n_tuple := He.free_ok X N (c.fact 47 (f := .free "tuple") rfl),
    i_GREATEST_DISTANCE := He.int_ok X N (c.fact 48 (f := .int "GREATEST_DISTANCE" 3) rfl),
    i_GREATEST_SIZE := He.int_ok X N (c.fact 49 (f := .int "GREATEST_SIZE" 4) rfl),
    i_MOST_LINKED := He.int_ok X N (c.fact 50 (f := .int "MOST_LINKED" 12) rfl),
    cls := clsC K [],
    x_Gaps := He.glo_ok X N (c.fact 51 (f := .glo "Gaps") rfl),
    cl_Gaps := He.cls_ok (c.fact 52 (f := .cls "Gaps") rfl),
    mk_Gaps := He.mkr_ok (c.fact 53 (f := .mkr "Gaps") rfl),
    na_Gaps_base := He.noat_ok (c.fact 54 (f := .noat "Gaps" "base") rfl),
    na_Gaps_links := He.noat_ok (c.fact 55 (f := .noat "Gaps" "links") rfl),
    na_Gaps_members := He.noat_ok (c.fact 56 (f := .noat "Gaps" "members") rfl),
    na_Gaps_shortest := He.noat_ok (c.fact 57 (f := .noat "Gaps" "shortest") rfl),
    me_Gaps_shorten := He.meth_ok (c.fact 58 (f := .meth "Gaps" "shorten") rfl),
    me_Gaps_find := He.meth_ok (c.fact 59 (f := .meth "Gaps" "find") rfl) }, ?_⟩
  cases e
  rfl
end Lw
open PySem PySem.W PySem.Calls PyProof.Rows
theorem PySem.Challenge.cw_flagplans_k17_needed_waits_and_least_pla_holds : PySem.Challenge.rw_flagplans_k17_needed_waits_and_least_pla.Holds := by
  w_on; o_law
  refine HandSHeadRun.head_any (r := OpenLaw.row PySem.Challenge.rw_flagplans_k17_needed_waits_and_least_pla) (q := view (OpenLaw.row PySem.Challenge.rw_flagplans_k17_needed_waits_and_least_pla).prog [47]) (H := Lw.hk) (ob := Lw.ob) (M := 20000) (loose := Lw.loose) (d := HandSHeadRun.topDef (OpenLaw.row PySem.Challenge.rw_flagplans_k17_needed_waits_and_least_pla).prog 47) (kwd := []) Lw.ob_eq
    (by kernel_rfl) (fun s => by kernel_rfl) Lw.run (by kernel_rfl) (by kernel_rfl) (by kernel_rfl) (by rfl) (by first | assumption | decide +kernel) (by decide +kernel) ⟨rfl, rfl, rfl, rfl, rfl, by decide +kernel⟩ ?hw ?hc
  case hw => w_witness2
  case hc =>
    refine Mini.walk_ofM (l := PySem.Challenge.rw_flagplans_k17_needed_waits_and_least_pla) (n := 63) (k := 9) (m := 4) (x := "script") (fas := Lw.fas) (fn := Lw.fns) rfl (by decide) (by kernel_rfl) ⟨⟨rfl, by decide, by decide⟩, rfl⟩ ?F
    intro w mg fa h K KX c N hmg0
    have hmg : mg ("law" : PySem.Str) = some (.ref fa) := by
      have e : (HandSHeadRun.topDef (OpenLaw.row PySem.Challenge.rw_flagplans_k17_needed_waits_and_least_pla).prog 47).name = ("law" : PySem.Str) := by kernel_rfl
      rw [← e]
      exact hmg0
    obtain ⟨g, rfl⟩ := Lw.facts KX N hmg c
    refine ⟨g.d_law, Lw.Ly w g, Lw.f_law, fun s v => ?_, fun ns hl => Lw.law_true ns hl, fun base _ _ => Lw.ok_law g⟩
    exact L2.FunD.bindsA (ps := ["script"]) g.F_law (fun _ _ _ _ _ _ us hl => match us, hl with | [_], _ => rfl) s [v] rfl
