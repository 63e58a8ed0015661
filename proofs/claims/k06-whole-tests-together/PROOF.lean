import PyProof.Rows.All
import Wide.All
import OpenK.AllK
import Wide.FinOn
import HandS.ForMost
import HandS.Wide
import HandS.IsInst
import HandS.Flow
import HandS.Style
import HandS.TupAny
import HandS.TupLe
import HandS.EndTab
import KE.KNestM
import HandS.Conv
import HandS.Strs
import HandS.SetFor
import HandS.Rev
import HandS.TupMul
import HandS.ReplaceLit
import HandS.Zip
import PyProof.Draws
import HandS.SortInts
import PyProof.Rows.SortShellAny
import PyProof.ListStr
import KE.GoesMore
import PyProof.WalksMore
import KE.SortKeyHeap
import KE.KDictItemsList
import KE.KSortKey
import HandS.SortKw
import KE.KDictPairs
import KE.KLam
import HandS.Deep
import HandS.DictEq
import HandS.RaiseMore
import KE.KEqDict
import PySem.Challenge.RW_webstore_k06_whole_tests_together
set_option Elab.async false
set_option linter.all false
set_option maxRecDepth 100000
set_option maxHeartbeats 4000000
/-! Data layer over HandS: a value stands for data read deep; what may change stands in a world of its own. -/
namespace Pd
open PySem L2

abbrev Frag := PySem.W.Frag
/-- the written part, and what is hidden: objects that stand still meanwhile and that nothing speaks of -/
structure Fw where
  P : Program
  W : World
  F : Frag
structure Kz where
  K : Fw
  Z : Addr → Prop
/-- data; tpl: a tuple that has no dict of its own, as is known; scr: a list that is locked (the script); ref: a thing by its address alone; ty: a built-in class -/
inductive PV where
  | non | bl (b : Bool) | int (i : Int) | str (x : Str) | tup (xs : List PV) | lst (xs : List PV) | scr (xs : List PV) | ref (a : Addr) | ty (n : String) | tpl (xs : List PV)
mutual
def PV.dep : PV → Nat
  | .lst xs => PV.deps xs + 1
  | .tup xs => PV.deps xs + 1
  | .tpl xs => PV.deps xs + 1
  | _ => 0
def PV.deps : List PV → Nat
  | [] => 0
  | x :: xs => max (PV.dep x) (PV.deps xs)
end
mutual
/-- what may be a key: no truths, no lists -/
def PV.hk : PV → Bool
  | .non => true
  | .int _ => true
  | .str _ => true
  | .tup xs => PV.hks xs
  | _ => false
def PV.hks : List PV → Bool
  | [] => true
  | x :: xs => PV.hk x && PV.hks xs
end
mutual
/-- its hash -/
def pvHash (W : World) : PV → Int
  | .non => 0xFCA86420
  | .int i => hashInt i
  | .str x => hashStr W x
  | .tup xs => reduceHash (Builtin.Tuple.tupleHashOf (pvHashs W xs))
  | _ => 0
def pvHashs (W : World) : List PV → List Int
  | [] => []
  | x :: xs => pvHash W x :: pvHashs W xs
end
/-- a dict whose keys are tuples of any depth, as an object -/
def PvDict (W : World) (a : Addr) (xs : List (PV × Addr × Value)) : Heap → Prop := fun h => (a == sysModules) = false ∧ xs.length ≤ sizeLine ∧
  ∃ o es ep, h.get? a = some o ∧ o.ExactDict ∧ o.data = .dict es ep ∧ es.toList = xs.map (fun x => (⟨pvHash W x.1, .ref x.2.1, x.2.2⟩ : DictEntry)) ∧ (xs.map (·.1)).Nodup
/-- things that may change; dcp: a dict with tuples of any depth for keys; dcl, lcl: a dict, a list that is walked; tab: a table of code objects -/
inductive MO where
  | lst (xs : List PV) | dct (kvs : List (Key × PV)) | dcl (kvs : List (Key × PV)) | lcl (xs : List PV) | dcp (kvs : List (PV × PV)) | ins (C : Addr) (fs : List (Str × PV)) | tab (q : Str)
/-- locked -/
def MO.isL : MO → Bool
  | .dcl _ => true
  | .lcl _ => true
  | _ => false
abbrev Wd := Addr → Option MO
def wset (w : Wd) (a : Addr) (m : MO) : Wd := fun b => if b = a then some m else w b
theorem wset_same {w : Wd} {a : Addr} {m : MO} : wset w a m a = some m := by unfold wset; rw [if_pos rfl]
theorem wset_ne {w : Wd} {a b : Addr} {m : MO} (h : b ≠ a) : wset w a m b = w b := by unfold wset; rw [if_neg h]
theorem wset_wset {w : Wd} {a : Addr} {m m' : MO} : wset (wset w a m) a m' = wset w a m' := by
  funext b; unfold wset; split <;> rfl
/-- forgotten, if it isn't locked -/
def keepL : Option MO → Option MO
  | some m => if m.isL = true then some m else none
  | none => none
def wdel (w : Wd) (a : Addr) : Wd := fun b => if b = a then keepL (w b) else w b

def WrT (K : Frag) (a : Addr) (xs : List V) : Prop :=
  ∃ (o : Obj) (its : Array Value) (n : Nat), K.lookup a = some o ∧ o.cls = .type "tuple" ∧ o.data = .seq its n ∧ its.size ≤ sizeLine ∧ Vals xs its.toList
def Tp (K : Kz) (w : Wd) (H : Hp) (a : Addr) (xs : List V) : Prop := (w a = none ∧ ¬ K.Z a ∧ Rd H a (.tup xs)) ∨ WrT K.K.F a xs
/-- .. and its object is known -/
def Pp (K : Kz) (w : Wd) (H : Hp) (a : Addr) (xs : List V) : Prop := w a = none ∧ ¬ K.Z a ∧ ∃ ob : Obj, H a = some (.frz ob (.tup xs)) ∧ ob.dict = none
theorem Pp.tq {K : Kz} {w : Wd} {H : Hp} {a : Addr} {xs : List V} (h : Pp K w H a xs) : Tp K w H a xs := by
  obtain ⟨h1, h2, ob, h3, _⟩ := h
  exact .inl ⟨h1, h2, .inr ⟨ob, h3⟩⟩
def Lp (K : Kz) (w : Wd) (H : Hp) (a : Addr) (xs : List V) : Prop := w a = none ∧ ¬ K.Z a ∧ H a = some (.lst xs)
def WrL (K : Frag) (a : Addr) (xs : List V) : Prop :=
  ∃ (o : Obj) (its : Array Value) (n : Nat), K.lookup a = some o ∧ o.cls = .type "list" ∧ o.dict = none ∧ o.data = .seq its n ∧ its.size ≤ sizeLine ∧ Vals xs its.toList
def Zp (K : Kz) (w : Wd) (H : Hp) (a : Addr) (xs : List V) : Prop := (w a = none ∧ ¬ K.Z a ∧ Rd H a (.lst xs)) ∨ WrL K.K.F a xs
theorem Tp.sq {K : Kz} {w : Wd} {H : Hp} {a : Addr} {xs : List V} (h : Tp K w H a xs) : SqT K.K.F H a xs := by
  rcases h with ⟨_, _, h⟩ | h
  · exact .inl h
  · exact .inr h
theorem Lp.sq {K : Kz} {w : Wd} {H : Hp} {a : Addr} {xs : List V} (h : Lp K w H a xs) : SqL K.K.F H a xs := SqL.of h.2.2
theorem Zp.sq {K : Kz} {w : Wd} {H : Hp} {a : Addr} {xs : List V} (h : Zp K w H a xs) : SqL K.K.F H a xs := by
  rcases h with h | h
  · exact .inl h.2.2
  · exact .inr h

mutual
inductive Dn (K : Kz) (w : Wd) (H : Hp) : V → PV → Prop
  | non : Dn K w H .non .non
  | bl (b : Bool) : Dn K w H (.bl b) (.bl b)
  | int (i : Int) : Dn K w H (.int i) (.int i)
  | str (x : Str) : Dn K w H (.str x) (.str x)
  | ref (a : Addr) : Dn K w H (.ref a) (.ref a)
  | ty (n : String) : Dn K w H (.ty n) (.ty n)
  | tup {a : Addr} {xs : List V} {ds : List PV} : Tp K w H a xs → DnAll K w H xs ds → Dn K w H (.ref a) (.tup ds)
  | lst {a : Addr} {xs : List V} {ds : List PV} : Lp K w H a xs → DnAll K w H xs ds → Dn K w H (.ref a) (.lst ds)
  | scr {a : Addr} {xs : List V} {ds : List PV} : Zp K w H a xs → DnAll K w H xs ds → Dn K w H (.ref a) (.scr ds)
  | tpl {a : Addr} {xs : List V} {ds : List PV} : Pp K w H a xs → DnAll K w H xs ds → Dn K w H (.ref a) (.tpl ds)
inductive DnAll (K : Kz) (w : Wd) (H : Hp) : List V → List PV → Prop
  | nil : DnAll K w H [] []
  | cons {v : V} {vs : List V} {d : PV} {ds : List PV} : Dn K w H v d → DnAll K w H vs ds → DnAll K w H (v :: vs) (d :: ds)
end

/-- all that doesn't change stands on -/
def Ext0 (w : Wd) (H : Hp) (w' : Wd) (H' : Hp) : Prop := ∀ b o, w b = none → H b = some o → w' b = none ∧ H' b = some o
/-- .. and what is locked -/
structure Ext (w : Wd) (H : Hp) (w' : Wd) (H' : Hp) : Prop where
  std : Ext0 w H w' H'
  lck : ∀ b m, w b = some m → m.isL = true → w' b = some m ∧ H' b = H b
instance {w : Wd} {H : Hp} {w' : Wd} {H' : Hp} : CoeFun (Ext w H w' H') (fun _ => ∀ b o, w b = none → H b = some o → w' b = none ∧ H' b = some o) := ⟨Ext.std⟩
theorem Ext.refl (w : Wd) (H : Hp) : Ext w H w H := ⟨fun _ _ h1 h2 => ⟨h1, h2⟩, fun _ _ h _ => ⟨h, rfl⟩⟩
theorem Ext.trans {w w1 w2 : Wd} {H H1 H2 : Hp} (a : Ext w H w1 H1) (b : Ext w1 H1 w2 H2) : Ext w H w2 H2 := ⟨fun c o h1 h2 =>
  b c o (a c o h1 h2).1 (a c o h1 h2).2, fun c k h l => ⟨(b.lck c k (a.lck c k h l).1 l).1, (b.lck c k (a.lck c k h l).1 l).2.trans (a.lck c k h l).2⟩⟩

section
variable {K : Kz} {w w' : Wd} {H H' : Hp}
theorem Pp.ext0 {a : Addr} {xs : List V} (e : Ext0 w H w' H') (h : Pp K w H a xs) : Pp K w' H' a xs := by
  obtain ⟨h1, h2, ob, h3, h4⟩ := h
  exact ⟨(e a _ h1 h3).1, h2, ob, (e a _ h1 h3).2, h4⟩
theorem Tp.ext0 {a : Addr} {xs : List V} (e : Ext0 w H w' H') (h : Tp K w H a xs) : Tp K w' H' a xs := by
  rcases h with ⟨h1, hz, h2 | ⟨o, h2⟩⟩ | h
  · exact .inl ⟨(e a _ h1 h2).1, hz, .inl (e a _ h1 h2).2⟩
  · exact .inl ⟨(e a _ h1 h2).1, hz, .inr ⟨o, (e a _ h1 h2).2⟩⟩
  · exact .inr h
theorem Lp.ext0 {a : Addr} {xs : List V} (e : Ext0 w H w' H') (h : Lp K w H a xs) : Lp K w' H' a xs := ⟨(e a _ h.1 h.2.2).1, h.2.1, (e a _ h.1 h.2.2).2⟩
theorem Zp.ext0 {a : Addr} {xs : List V} (e : Ext0 w H w' H') (h : Zp K w H a xs) : Zp K w' H' a xs := by
  rcases h with ⟨h1, hz, h2 | ⟨o, h2⟩⟩ | h
  · exact .inl ⟨(e a _ h1 h2).1, hz, .inl (e a _ h1 h2).2⟩
  · exact .inl ⟨(e a _ h1 h2).1, hz, .inr ⟨o, (e a _ h1 h2).2⟩⟩
  · exact .inr h
mutual
theorem Dn.ext0 (e : Ext0 w H w' H') : ∀ {v : V} {d : PV}, Dn K w H v d → Dn K w' H' v d
  | _, _, .non => .non
  | _, _, .bl b => .bl b
  | _, _, .int i => .int i
  | _, _, .str x => .str x
  | _, _, .ref a => .ref a
  | _, _, .ty n => .ty n
  | _, _, .tup h r => .tup (h.ext0 e) (DnAll.ext0 e r)
  | _, _, .lst h r => .lst (h.ext0 e) (DnAll.ext0 e r)
  | _, _, .scr h r => .scr (h.ext0 e) (DnAll.ext0 e r)
  | _, _, .tpl h r => .tpl (h.ext0 e) (DnAll.ext0 e r)
theorem DnAll.ext0 (e : Ext0 w H w' H') : ∀ {vs : List V} {ds : List PV}, DnAll K w H vs ds → DnAll K w' H' vs ds
  | _, _, .nil => .nil
  | _, _, .cons h r => .cons (h.ext0 e) (DnAll.ext0 e r)
end
theorem Pp.ext {a : Addr} {xs : List V} (e : Ext w H w' H') (h : Pp K w H a xs) : Pp K w' H' a xs := h.ext0 e.std
theorem Tp.ext {a : Addr} {xs : List V} (e : Ext w H w' H') (h : Tp K w H a xs) : Tp K w' H' a xs := h.ext0 e.std
theorem Lp.ext {a : Addr} {xs : List V} (e : Ext w H w' H') (h : Lp K w H a xs) : Lp K w' H' a xs := h.ext0 e.std
theorem Zp.ext {a : Addr} {xs : List V} (e : Ext w H w' H') (h : Zp K w H a xs) : Zp K w' H' a xs := h.ext0 e.std
theorem Dn.ext (e : Ext w H w' H') {v : V} {d : PV} (h : Dn K w H v d) : Dn K w' H' v d := h.ext0 e.std
theorem DnAll.ext (e : Ext w H w' H') {vs : List V} {ds : List PV} (h : DnAll K w H vs ds) : DnAll K w' H' vs ds := h.ext0 e.std
theorem DnAll.length : ∀ {vs : List V} {ds : List PV}, DnAll K w H vs ds → vs.length = ds.length
  | _, _, .nil => rfl
  | _, _, .cons _ r => by rw [List.length_cons, List.length_cons, DnAll.length r]
theorem DnAll.append : ∀ {vs us : List V} {ds es : List PV}, DnAll K w H vs ds → DnAll K w H us es → DnAll K w H (vs ++ us) (ds ++ es)
  | _, _, _, _, .nil, s => s
  | _, _, _, _, .cons h r, s => .cons h (DnAll.append r s)
theorem DnAll.get : ∀ {vs : List V} {ds : List PV} {i : Nat} {d : PV}, DnAll K w H vs ds → ds[i]? = some d → ∃ v, vs[i]? = some v ∧ Dn K w H v d
  | _, _, _, _, .nil, e => by simp at e
  | _, _, 0, _, .cons h _, e => by simp at e; subst e; exact ⟨_, rfl, h⟩
  | _, _, i + 1, d, .cons _ r, e => by
    obtain ⟨v, h1, h2⟩ := DnAll.get (i := i) (d := d) r (by simpa using e)
    exact ⟨v, by simpa using h1, h2⟩
theorem DnAll.get' : ∀ {vs : List V} {ds : List PV} {i : Nat} {v : V}, DnAll K w H vs ds → vs[i]? = some v → ∃ d, ds[i]? = some d ∧ Dn K w H v d
  | _, _, _, _, .nil, e => by simp at e
  | _, _, 0, _, .cons h _, e => by simp at e; subst e; exact ⟨_, rfl, h⟩
  | _, _, i + 1, v, .cons _ r, e => by
    obtain ⟨d, h1, h2⟩ := DnAll.get' (i := i) (v := v) r (by simpa using e)
    exact ⟨d, by simpa using h1, h2⟩
theorem DnAll.drop : ∀ {vs : List V} {ds : List PV} (n : Nat), DnAll K w H vs ds → DnAll K w H (vs.drop n) (ds.drop n)
  | _, _, 0, r => r
  | _, _, _ + 1, .nil => .nil
  | _, _, n + 1, .cons _ r => DnAll.drop n r
theorem DnAll.take : ∀ {vs : List V} {ds : List PV} (n : Nat), DnAll K w H vs ds → DnAll K w H (vs.take n) (ds.take n)
  | _, _, 0, _ => .nil
  | _, _, _ + 1, .nil => .nil
  | _, _, n + 1, .cons h r => .cons h (DnAll.take n r)
theorem DnAll.set {x : V} {d : PV} (h : Dn K w H x d) : ∀ {vs : List V} {ds : List PV} (i : Nat), DnAll K w H vs ds → DnAll K w H (vs.set i x) (ds.set i d)
  | _, _, _, .nil => .nil
  | _, _, 0, .cons _ r => .cons h r
  | _, _, i + 1, .cons q r => .cons q (DnAll.set h i r)
theorem DnAll.rep {vs : List V} {ds : List PV} (h : DnAll K w H vs ds) : ∀ k : Nat, DnAll K w H (List.replicate k vs).flatten (List.replicate k ds).flatten
  | 0 => .nil
  | k + 1 => by
    rw [List.replicate_succ, List.replicate_succ, List.flatten_cons, List.flatten_cons]
    exact h.append (DnAll.rep h k)
end

def KvOk (K : Kz) (w : Wd) (H : Hp) {κ : Type} : List (κ × V) → List (κ × PV) → Prop := Paired fun (p : κ × V) (q : κ × PV) => p.1 = q.1 ∧ Dn K w H p.2 q.2
abbrev KpOk (K : Kz) (w : Wd) (H : Hp) : List (PV × Addr × Value) → List (PV × PV) → Prop := Paired fun q p => q.1 = p.1 ∧ Dn K w H (.ref q.2.1) p.1 ∧ (p.1.hk = true ∧ p.1.dep ≤ 8) ∧ ∃ v, RelV v q.2.2 ∧ Dn K w H v p.2
/-- a table of code objects of the name q -/
structure TabM (K : Kz) (w : Wd) (H : Hp) (ps : Array Value) (q : Str) : Prop where
  tr : TriplesOk ps.toList
  at_ : ∀ (pos : Pos) (cv : Value), codeAmong pos ps.toList = some cv → ∃ c, cv = .ref c ∧ H c = some (LamX.CodeO c q) ∧ w c = none ∧ ¬ K.Z c
theorem TabM.ext0 {K : Kz} {w w' : Wd} {H H' : Hp} {ps : Array Value} {q : Str} (e : Ext0 w H w' H') (h : TabM K w H ps q) : TabM K w' H' ps q := ⟨h.tr, fun pos cv hc => by
  obtain ⟨c, e1, e2, e3, e4⟩ := h.at_ pos cv hc
  exact ⟨c, e1, (e c _ e3 e2).2, (e c _ e3 e2).1, e4⟩⟩
theorem TabM.ext {K : Kz} {w w' : Wd} {H H' : Hp} {ps : Array Value} {q : Str} (e : Ext w H w' H') (h : TabM K w H ps q) : TabM K w' H' ps q := h.ext0 e.std
inductive MOk (K : Kz) (w : Wd) (H : Hp) (a : Addr) : MO → Prop
  | lst {xs : List V} {ds : List PV} : H a = some (.lst xs) → DnAll K w H xs ds → MOk K w H a (.lst ds)
  | dct {xs : List (Key × V)} {ds : List (Key × PV)} : H a = some (.dK xs) → KvOk K w H xs ds → MOk K w H a (.dct ds)
  | dcl {xs : List (Key × V)} {ds : List (Key × PV)} {od : Obj} : H a = some (.frz od (.dK xs)) → KvOk K w H xs ds → MOk K w H a (.dcl ds)
  | lcl {xs : List V} {ds : List PV} {od : Obj} : H a = some (.frz od (.lst xs)) → DnAll K w H xs ds → MOk K w H a (.lcl ds)
  | dcp {xs : List (PV × Addr × Value)} {ds : List (PV × PV)} : H a = some (.ext (PvDict K.K.W a xs)) → KpOk K w H xs ds → MOk K w H a (.dcp ds)
  | ins {C dx : Addr} {xs : List (Str × V)} {ds : List (Str × PV)} : H a = some (.ins C dx xs) → KvOk K w H xs ds → MOk K w H a (.ins C ds)
  | tab {ps : Array Value} {q : Str} : H a = some (.tbl ps) → TabM K w H ps q → MOk K w H a (.tab q)
structure Wk (K : Kz) (w : Wd) (H : Hp) : Prop where
  at_ : ∀ a m, w a = some m → MOk K w H a m
  zin : ∀ b, K.Z b → w b = none ∧ ∃ o, H b = some o
theorem MOk.there {K : Kz} {w : Wd} {H : Hp} {a : Addr} {m : MO} (h : MOk K w H a m) : ∃ o, H a = some o := by
  cases h with
  | lst h _ => exact ⟨_, h⟩
  | dct h _ => exact ⟨_, h⟩
  | lcl h _ => exact ⟨_, h⟩
  | dcl h _ => exact ⟨_, h⟩
  | dcp h _ => exact ⟨_, h⟩
  | ins h _ => exact ⟨_, h⟩
  | tab h _ => exact ⟨_, h⟩
theorem Wk.off {K : Kz} {w : Wd} {H : Hp} (k : Wk K w H) {a : Addr} (h : H a = none) : w a = none := by
  cases e : w a with
  | none => rfl
  | some m =>
    obtain ⟨o, q⟩ := (k.at_ a m e).there
    rw [h] at q; cases q
theorem KvOk.ext0 {K : Kz} {w w' : Wd} {H H' : Hp} {κ : Type} (e : Ext0 w H w' H') {xs : List (κ × V)} {ds : List (κ × PV)} (h : KvOk K w H xs ds) : KvOk K w' H' xs ds :=
  L2.Paired.mapP h fun _ _ z => ⟨z.1, z.2.ext0 e⟩
theorem KpOk.ext0 {K : Kz} {w w' : Wd} {H H' : Hp} (e : Ext0 w H w' H') {xs : List (PV × Addr × Value)} {ds : List (PV × PV)} (h : KpOk K w H xs ds) : KpOk K w' H' xs ds :=
  L2.Paired.mapP h fun _ _ z => ⟨z.1, z.2.1.ext0 e, z.2.2.1, by obtain ⟨v, h1, h2⟩ := z.2.2.2; exact ⟨v, h1, h2.ext0 e⟩⟩
theorem KvOk.ext {K : Kz} {w w' : Wd} {H H' : Hp} {κ : Type} (e : Ext w H w' H') {xs : List (κ × V)} {ds : List (κ × PV)} (h : KvOk K w H xs ds) : KvOk K w' H' xs ds := KvOk.ext0 e.std h
theorem KpOk.ext {K : Kz} {w w' : Wd} {H H' : Hp} (e : Ext w H w' H') {xs : List (PV × Addr × Value)} {ds : List (PV × PV)} (h : KpOk K w H xs ds) : KpOk K w' H' xs ds := KpOk.ext0 e.std h
/-- a change of the heap that leaves what may change as it is -/
theorem Wk.ext {K : Kz} {w : Wd} {H H' : Hp} (k : Wk K w H) (e : Ext w H w H') (s : ∀ a, w a ≠ none → H' a = H a) : Wk K w H' := ⟨fun a m h => by
  have ne : w a ≠ Option.none := by rw [h]; exact fun z => nomatch z
  cases k.at_ a m h with
  | lst h1 h2 => exact .lst ((s a ne).trans h1) (h2.ext e)
  | dct h1 h2 => exact .dct ((s a ne).trans h1) (h2.ext e)
  | lcl h1 h2 => exact .lcl ((s a ne).trans h1) (h2.ext e)
  | dcl h1 h2 => exact .dcl ((s a ne).trans h1) (h2.ext e)
  | dcp h1 h2 => exact .dcp ((s a ne).trans h1) (KpOk.ext e h2)
  | ins h1 h2 => exact .ins ((s a ne).trans h1) (h2.ext e)
  | tab h1 h2 => exact .tab ((s a ne).trans h1) (h2.ext e), fun b z => by
  obtain ⟨h1, o, h2⟩ := k.zin b z
  exact ⟨h1, o, (e b o h1 h2).2⟩⟩
theorem Wk.nz {K : Kz} {w : Wd} {H : Hp} (k : Wk K w H) {a : Addr} (h : H a = none) : ¬ K.Z a := fun z => by
  obtain ⟨_, o, q⟩ := k.zin a z
  rw [h] at q; cases q

/-- a new object that doesn't change -/
theorem Ext.new {K : Kz} {w : Wd} {H : Hp} (k : Wk K w H) {p : Addr} {o : HO} (n : H p = none) : Ext w H w (upd H p o) := ⟨fun b u h1 h2 =>
  ⟨h1, by rw [upd_ne (ne_of_none h2 n)]; exact h2⟩, fun b kvs h _ => ⟨h, by obtain ⟨u, h2⟩ := (k.at_ b _ h).there; rw [upd_ne (ne_of_none h2 n)]⟩⟩
theorem Ext.updN {K : Kz} {w w' : Wd} {H H' : Hp} {D : Addr} {o : HO} (k : Wk K w H) (e : Ext w H w' H') (hD : H D = none) : Ext w H w' (upd H' D o) := ⟨fun b u h1 h2 =>
  ⟨(e b u h1 h2).1, by rw [upd_ne (ne_of_none h2 hD)]; exact (e b u h1 h2).2⟩, fun b kvs h l => ⟨(e.lck b kvs h l).1, by obtain ⟨u, h2⟩ := (k.at_ b _ h).there; rw [upd_ne (ne_of_none h2 hD)]; exact (e.lck b kvs h l).2⟩⟩
theorem Ext.setN {K : Kz} {w w' : Wd} {H H' : Hp} {D : Addr} {m : MO} (k : Wk K w H) (e : Ext w H w' H') (hD : H D = none) : Ext w H (wset w' D m) H' := ⟨fun b u h1 h2 =>
  ⟨by rw [wset_ne (ne_of_none h2 hD)]; exact (e b u h1 h2).1, (e b u h1 h2).2⟩, fun b kvs h l => ⟨by obtain ⟨u, h2⟩ := (k.at_ b _ h).there; rw [wset_ne (ne_of_none h2 hD)]; exact (e.lck b kvs h l).1, (e.lck b kvs h l).2⟩⟩
theorem Wk.new {K : Kz} {w : Wd} {H : Hp} (k : Wk K w H) {p : Addr} {o : HO} (n : H p = none) : Wk K w (upd H p o) :=
  k.ext (Ext.new k n) fun a ha => by
    have q : a ≠ p := fun z => ha (by rw [z]; exact k.off n)
    rw [upd_ne q]

abbrev Sl := List (Option PV)
structure Rep (K : Kz) (ρ : Sl) (w : Wd) (σ : St) (H : Hp) : Prop where
  len : σ.length = ρ.length
  sl : ∀ (i : Nat) d, ρ[i]? = some (some d) → ∃ v, σ[i]? = some (some v) ∧ Dn K w H v d
  wk : Wk K w H
theorem Rep.ext {K : Kz} {ρ : Sl} {w w' : Wd} {σ : St} {H H' : Hp} (r : Rep K ρ w σ H) (e : Ext w H w' H') (k : Wk K w' H') : Rep K ρ w' σ H' :=
  ⟨r.len, fun i d h => by obtain ⟨v, h1, h2⟩ := r.sl i d h; exact ⟨v, h1, h2.ext e⟩, k⟩
theorem Rep.set {K : Kz} {ρ : Sl} {w : Wd} {σ : St} {H : Hp} (r : Rep K ρ w σ H) {v : V} {d : PV} (h : Dn K w H v d) (i : Nat) : Rep K (ρ.set i (some d)) w (σ.set i (some v)) H := by
  refine ⟨by simp [r.len], fun j e q => ?_, r.wk⟩
  by_cases hj : i = j
  · subst hj
    by_cases hl : i < ρ.length
    · rw [List.getElem?_set_self hl] at q
      cases q
      exact ⟨v, List.getElem?_set_self (by rw [r.len]; exact hl), h⟩
    · rw [List.getElem?_eq_none (by simp; omega)] at q
      cases q
  · rw [List.getElem?_set_ne hj] at q
    obtain ⟨u, h1, h2⟩ := r.sl j e q
    exact ⟨u, by rw [List.getElem?_set_ne hj]; exact h1, h2⟩

/-! ### readings over data -/
abbrev WQ := PV → Wd → Prop
abbrev WE := Sl → Wd → WQ → Prop
abbrev WT := Sl → Wd → (Bool → Wd → Prop) → Prop
abbrev WA := Sl → Wd → (List PV → Wd → Prop) → Prop
structure WEnds where
  nx : Sl → Wd → Prop
  rt : WQ
  bk : Sl → Wd → Prop := fun _ _ => False
  ct : Sl → Wd → Prop := fun _ _ => False
abbrev WS := WEnds → Sl → Wd → Prop
def Post (K : Kz) (w : Wd) (H : Hp) (Q : WQ) : VK := fun v H' => ∃ d w', Ext w H w' H' ∧ Wk K w' H' ∧ Dn K w' H' v d ∧ Q d w'
def PostT (K : Kz) (w : Wd) (H : Hp) (Q : Bool → Wd → Prop) : Bool → Hp → Prop := fun b H' => ∃ w', Ext w H w' H' ∧ Wk K w' H' ∧ Q b w'
def PostA (K : Kz) (w : Wd) (H : Hp) (Q : List PV → Wd → Prop) : List V → Hp → Prop := fun vs H' => ∃ ds w', Ext w H w' H' ∧ Wk K w' H' ∧ DnAll K w' H' vs ds ∧ Q ds w'
abbrev fw (X : Cx) : Fw := ⟨X.prog, X.w, X.K⟩
def upE (K : Fw) (t : WE) : TE := fun σ H Q => ∃ Z ρ w Q', Rep ⟨K, Z⟩ ρ w σ H ∧ t ρ w Q' ∧ ∀ v H', Post ⟨K, Z⟩ w H Q' v H' → Q v H'
def upT (K : Fw) (t : WT) : TT := fun σ H Q => ∃ Z ρ w Q', Rep ⟨K, Z⟩ ρ w σ H ∧ t ρ w Q' ∧ ∀ b H', PostT ⟨K, Z⟩ w H Q' b H' → Q b H'
def upA (K : Fw) (t : WA) : TA := fun σ H Q => ∃ Z ρ w Q', Rep ⟨K, Z⟩ ρ w σ H ∧ t ρ w Q' ∧ ∀ vs H', PostA ⟨K, Z⟩ w H Q' vs H' → Q vs H'
structure EndsOk (K : Kz) (w : Wd) (H : Hp) (E : WEnds) (D : Ends) : Prop where
  nx : ∀ σ' H' ρ' w', Ext w H w' H' → Rep K ρ' w' σ' H' → E.nx ρ' w' → D.nx σ' H'
  rt : ∀ v H', Post K w H E.rt v H' → D.rt v H'
  bk : ∀ σ' H' ρ' w', Ext w H w' H' → Rep K ρ' w' σ' H' → E.bk ρ' w' → D.bk σ' H'
  ct : ∀ σ' H' ρ' w', Ext w H w' H' → Rep K ρ' w' σ' H' → E.ct ρ' w' → D.ct σ' H'
theorem EndsOk.ext {K : Kz} {w w' : Wd} {H H' : Hp} {E : WEnds} {D : Ends} (k : EndsOk K w H E D) (e : Ext w H w' H') : EndsOk K w' H' E D :=
  ⟨fun a b c d x r q => k.nx a b c d (e.trans x) r q, fun v h ⟨d, w2, x, r⟩ => k.rt v h ⟨d, w2, e.trans x, r⟩, fun a b c d x r q => k.bk a b c d (e.trans x) r q, fun a b c d x r q => k.ct a b c d (e.trans x) r q⟩
def upS (K : Fw) (t : WS) : TS := fun D σ H => ∃ Z ρ w E, Rep ⟨K, Z⟩ ρ w σ H ∧ t E ρ w ∧ EndsOk ⟨K, Z⟩ w H E D

abbrev DE (X : Cx) (e : Expr) (t : WE) : Prop := PE X e (upE (fw X) t)
abbrev DT (X : Cx) (e : Expr) (t : WT) : Prop := PT X e (upT (fw X) t)
abbrev DW (X : Cx) (e : Expr) (t : WT) : Prop := PW X e (upT (fw X) t)
abbrev DA (X : Cx) (es : List Expr) (t : WA) : Prop := PA X es (upA (fw X) t)
abbrev DS (X : Cx) (st : Stmt) (t : WS) : Prop := PS X st (upS (fw X) t)
abbrev DSs (X : Cx) (st : List Stmt) (t : WS) : Prop := PSs X st (upS (fw X) t)

section
variable {X : Cx} {a b c e : Expr} {es : List Expr} {pos : Pos}
theorem pe_le {t t' : TE} (h : PE X e t) (hl : ∀ σ H Q, t' σ H Q → t σ H Q) : PE X e t' := ⟨fun pins s σ H Q I q => h.run pins s σ H Q I (hl σ H Q q)⟩
theorem pt_le {t t' : TT} (h : PT X e t) (hl : ∀ σ H Q, t' σ H Q → t σ H Q) : PT X e t' := ⟨fun pins s σ H Q I q => h.run pins s σ H Q I (hl σ H Q q)⟩
theorem pw_le {t t' : TT} (h : PW X e t) (hl : ∀ σ H Q, t' σ H Q → t σ H Q) : PW X e t' := ⟨fun w pins s σ H Q I q => h.run w pins s σ H Q I (hl σ H Q q)⟩
theorem pa_le {t t' : TA} (h : PA X es t) (hl : ∀ σ H Q, t' σ H Q → t σ H Q) : PA X es t' := ⟨fun p pins s σ H Q I q => h.run p pins s σ H Q I (hl σ H Q q)⟩
theorem ps_le {st : Stmt} {t t' : TS} (h : PS X st t) (hl : ∀ D σ H, t' D σ H → t D σ H) : PS X st t' := ⟨fun pins s σ H D I q => h.run pins s σ H D I (hl D σ H q)⟩
theorem pss_le {st : List Stmt} {t t' : TS} (h : PSs X st t) (hl : ∀ D σ H, t' D σ H → t D σ H) : PSs X st t' := ⟨fun pins s σ H D I q => h.run pins s σ H D I (hl D σ H q)⟩
/-- one expression, then something -/
theorem up1 {K : Fw} {Z : Addr → Prop} {ta : WE} {σ : St} {H : Hp} {ρ : Sl} {w : Wd} {Q' : WQ} {R : VK} (r : Rep ⟨K, Z⟩ ρ w σ H) (h : ta ρ w Q') (k : ∀ x H1 d w1, Ext w H w1 H1 → Rep ⟨K, Z⟩ ρ w1 σ H1 → Dn ⟨K, Z⟩ w1 H1 x d → Q' d w1 → R x H1) : upE K ta σ H R :=
  ⟨Z, ρ, w, Q', r, h, fun x H1 ⟨d, w1, e, wk, dn, q⟩ => k x H1 d w1 e (r.ext e wk) dn q⟩
theorem upT1 {K : Fw} {Z : Addr → Prop} {ta : WT} {σ : St} {H : Hp} {ρ : Sl} {w : Wd} {Q' : Bool → Wd → Prop} {R : Bool → Hp → Prop} (r : Rep ⟨K, Z⟩ ρ w σ H) (h : ta ρ w Q') (k : ∀ x H1 w1, Ext w H w1 H1 → Rep ⟨K, Z⟩ ρ w1 σ H1 → Q' x w1 → R x H1) : upT K ta σ H R :=
  ⟨Z, ρ, w, Q', r, h, fun x H1 ⟨w1, e, wk, q⟩ => k x H1 w1 e (r.ext e wk) q⟩
theorem upA1 {K : Fw} {Z : Addr → Prop} {ta : WA} {σ : St} {H : Hp} {ρ : Sl} {w : Wd} {Q' : List PV → Wd → Prop} {R : List V → Hp → Prop} (r : Rep ⟨K, Z⟩ ρ w σ H) (h : ta ρ w Q') (k : ∀ x H1 d w1, Ext w H w1 H1 → Rep ⟨K, Z⟩ ρ w1 σ H1 → DnAll ⟨K, Z⟩ w1 H1 x d → Q' d w1 → R x H1) : upA K ta σ H R :=
  ⟨Z, ρ, w, Q', r, h, fun x H1 ⟨d, w1, e, wk, dn, q⟩ => k x H1 d w1 e (r.ext e wk) dn q⟩

/-! names and constants -/
def getS (ρ : Sl) (i : Nat) (k : PV → Prop) : Prop := match ρ[i]? with
  | some (some d) => k d
  | _ => False
theorem getS_at {ρ : Sl} {i : Nat} {k : PV → Prop} (h : getS ρ i k) : ∃ d, ρ[i]? = some (some d) ∧ k d := by
  unfold getS at h
  split at h
  · rename_i d e; exact ⟨d, e, h⟩
  · exact h.elim
def wVar (i : Nat) : WE := fun ρ w Q => getS ρ i fun d => Q d w
def wC (d : PV) : WE := fun _ w Q => Q d w
theorem de_var (i : Nat) {x : Str} {pos : Pos} (hN : X.N[i]? = some x := by rfl) (hv : Vis X.env.scope x := by first | exact Or.inl rfl | exact Or.inr (Or.inl rfl) | exact Or.inr (Or.inr rfl)) (hd : (x == ("__debug__" : Str)) = false := by decide)
    (hcd : (x == ("__classdict__" : Str)) = false := by decide) : DE X (.Name x pos) (wVar i) :=
  pe_le (pe_var hN hv hd hcd) fun σ H Q ⟨Z, ρ, w, Q', r, h, k⟩ => by
    obtain ⟨d, h1, h2⟩ := getS_at h
    obtain ⟨v, h3, h4⟩ := r.sl i d h1
    exact ⟨v, h3, k v H ⟨d, w, Ext.refl _ _, r.wk, h4, h2⟩⟩
theorem de_c {v : V} {d : PV} (h : PE X e (tC v)) (hd : ∀ K w H, Dn K w H v d) : DE X e (wC d) :=
  pe_le h fun σ H Q ⟨Z, ρ, w, Q', r, h, k⟩ => k v H ⟨d, w, Ext.refl _ _, r.wk, hd _ _ _, h⟩
theorem de_int {i j pos} : DE X (.Constant (.int i) j pos) (wC (.int i)) := de_c pe_int fun _ _ _ => .int i
theorem de_bl {b j pos} : DE X (.Constant (.bool b) j pos) (wC (.bl b)) := de_c pe_bl fun _ _ _ => .bl b
theorem de_non {j pos} : DE X (.Constant .none j pos) (wC .non) := de_c pe_non fun _ _ _ => .non
theorem de_str {x j pos} : DE X (.Constant (.str x) j pos) (wC (.str x)) := de_c pe_str fun _ _ _ => .str x
/-- a module's own constant -/
theorem de_gInt {x : Str} {i : Int} {t : Tok} {pos : Pos} (hg : Gl X x) (hm : X.mg x = some (.int i t)) (hd : (x == ("__debug__" : Str)) = false := by decide) : DE X (.Name x pos) (wC (.int i)) := de_c (v := .int i) (pe_glob hg hm ⟨t, rfl⟩ hd) fun _ _ _ => .int i
theorem de_gStr {x : Str} {i : Str} {t : Tok} {pos : Pos} (hg : Gl X x) (hm : X.mg x = some (.str i t)) (hd : (x == ("__debug__" : Str)) = false := by decide) : DE X (.Name x pos) (wC (.str i)) := de_c (v := .str i) (pe_glob hg hm ⟨t, rfl⟩ hd) fun _ _ _ => .str i
/-- a written tuple of the module -/
theorem de_gTup {x : Str} {a : Addr} {xs : List V} {ds : List PV} {pos : Pos} (hg : Gl X x) (hm : X.mg x = some (.ref a)) (hw : WrT X.K a xs) (ha : ∀ Z w H, DnAll ⟨fw X, Z⟩ w H xs ds) (hd : (x == ("__debug__" : Str)) = false := by decide) : DE X (.Name x pos) (wC (.tup ds)) :=
  pe_le (pe_glob (v := .ref a) hg hm rfl hd) fun σ H Q ⟨Z, ρ, w, Q', r, h, k⟩ => k (.ref a) H ⟨.tup ds, w, Ext.refl _ _, r.wk, .tup (.inr hw) (ha _ _ _), h⟩
/-- a built-in class as a value -/
theorem de_ty {x : Str} {n : String} {pos : Pos} (hg : Gl X x) (hm : X.mg x = none) (hv : bootBuiltins x = some (.type n)) (hn : x ≠ "__name__" := by decide) (hd : (x == ("__debug__" : Str)) = false := by decide) : DE X (.Name x pos) (wC (.ty n)) :=
  de_c (v := .ty n) (pe_bltn hg hm hv rfl hn hd) fun _ _ _ => .ty n

/-! operators by values -/
abbrev R2D := PV → PV → Wd → WQ → Prop
/-- what a rule of values says, said of data -/
def L2op (K : Fw) (r : R2) (rD : R2D) : Prop := ∀ (Z : Addr → Prop) x y H dx dy w Q' (Q : VK), Wk ⟨K, Z⟩ w H → Dn ⟨K, Z⟩ w H x dx → Dn ⟨K, Z⟩ w H y dy → rD dx dy w Q' → (∀ v H', Post ⟨K, Z⟩ w H Q' v H' → Q v H') → r x y H Q
def wOp (r : R2D) (ta tb : WE) : WE := fun ρ w Q => ta ρ w fun x w1 => tb ρ w1 fun y w2 => r x y w2 Q
theorem post_trans {K : Kz} {w w1 : Wd} {H H1 : Hp} {Q : WQ} {v : V} {H' : Hp} (e : Ext w H w1 H1) (p : Post K w1 H1 Q v H') : Post K w H Q v H' := by
  obtain ⟨d, w', x, r⟩ := p
  exact ⟨d, w', e.trans x, r⟩
theorem postT_trans {K : Kz} {w w1 : Wd} {H H1 : Hp} {Q : Bool → Wd → Prop} {v : Bool} {H' : Hp} (e : Ext w H w1 H1) (p : PostT K w1 H1 Q v H') : PostT K w H Q v H' := by
  obtain ⟨w', x, r⟩ := p
  exact ⟨w', e.trans x, r⟩
theorem up_op {K : Fw} {r : R2} {rD : R2D} (hl : L2op K r rD) {ta tb : WE} {σ : St} {H : Hp} {Q : VK} (h : upE K (wOp rD ta tb) σ H Q) : tOp r (upE K ta) (upE K tb) σ H Q := by
  obtain ⟨Z, ρ, w, Q', rp, h, k⟩ := h
  refine up1 rp h fun x H1 dx w1 e1 rp1 n1 h1 => ?_
  refine up1 rp1 h1 fun y H2 dy w2 e2 rp2 n2 h2 => ?_
  exact hl Z x y H2 dx dy w2 Q' Q rp2.wk (n1.ext e2) n2 h2 fun v H' p => k v H' (post_trans (e1.trans e2) p)
theorem de_op {op : Operator} {r : R2} {rD : R2D} {ta tb : WE} (ho : OpR X (binaryOp op) r) (hl : L2op (fw X) r rD) (ha : DE X a ta) (hb : DE X b tb) : DE X (.BinOp a op b pos) (wOp rD ta tb) :=
  pe_le (pe_op ho ha hb) fun _ _ _ h => up_op hl h
theorem de_cmp {op : CmpOp} {r : R2} {rD : R2D} {ta tb : WE} (ho : OpR X (compareOp op) r) (hl : L2op (fw X) r rD) (ha : DE X a ta) (hb : DE X b tb) (hk : behindInMarks op b = false) : DE X (.Compare a [op] [b] pos) (wOp rD ta tb) :=
  pe_le (pe_cmpR ho ha hb hk) fun _ _ _ h => up_op hl h
/-- the same value again -/
theorem post_same {K : Kz} {w : Wd} {H : Hp} {Q : WQ} {v : V} {d : PV} (k : Wk K w H) (n : Dn K w H v d) (q : Q d w) : Post K w H Q v H := ⟨d, w, Ext.refl _ _, k, n, q⟩
/-- a new list, a new tuple -/
theorem post_lst {K : Kz} {w : Wd} {H : Hp} {Q : WQ} {xs : List V} {ds : List PV} {p : Addr} (k : Wk K w H) (hp : H p = none) (n : DnAll K w H xs ds) (q : Q (.lst ds) w) : Post K w H Q (.ref p) (upd H p (.lst xs)) :=
  ⟨.lst ds, w, Ext.new k hp, k.new hp, .lst ⟨k.off hp, k.nz hp, upd_same⟩ (n.ext (Ext.new k hp)), q⟩
theorem post_tup {K : Kz} {w : Wd} {H : Hp} {Q : WQ} {xs : List V} {ds : List PV} {p : Addr} (k : Wk K w H) (hp : H p = none) (n : DnAll K w H xs ds) (q : Q (.tup ds) w) : Post K w H Q (.ref p) (upd H p (.tup xs)) :=
  ⟨.tup ds, w, Ext.new k hp, k.new hp, .tup (.inl ⟨k.off hp, k.nz hp, .inl upd_same⟩) (n.ext (Ext.new k hp)), q⟩
end
end Pd

/-! == of data at any depth -/
namespace Pd
open PySem L2

mutual
def PV.eqb : PV → PV → Bool
  | .non, .non => true
  | .bl a, .bl b => a == b
  | .bl a, .int j => (if a then 1 else 0) == j
  | .int i, .bl b => i == (if b then 1 else 0)
  | .int i, .int j => i == j
  | .str x, .str y => x == y
  | .lst xs, .lst ys => PV.eqbs xs ys
  | .tup xs, .tup ys => PV.eqbs xs ys
  | _, _ => false
def PV.eqbs : List PV → List PV → Bool
  | [], [] => true
  | x :: xs, y :: ys => PV.eqb x y && PV.eqbs xs ys
  | _, _ => false
end
mutual
/-- data alone: no thing by its address -/
def PV.pl : PV → Bool
  | .non => true
  | .bl _ => true
  | .int _ => true
  | .str _ => true
  | .lst xs => PV.pls xs
  | .tup xs => PV.pls xs
  | _ => false
def PV.pls : List PV → Bool
  | [] => true
  | x :: xs => PV.pl x && PV.pls xs
end
mutual
theorem PV.eqb_refl : ∀ d : PV, d.pl = true → PV.eqb d d = true
  | .non, _ => by simp [PV.eqb]
  | .bl _, _ => by simp [PV.eqb]
  | .int _, _ => by simp [PV.eqb]
  | .str _, _ => by simp [PV.eqb]
  | .lst xs, h => by rw [PV.eqb]; exact PV.eqbs_refl xs (by simpa [PV.pl] using h)
  | .tup xs, h => by rw [PV.eqb]; exact PV.eqbs_refl xs (by simpa [PV.pl] using h)
  | .scr _, h => by simp [PV.pl] at h
  | .ref _, h => by simp [PV.pl] at h
  | .ty _, h => by simp [PV.pl] at h
theorem PV.eqbs_refl : ∀ ds : List PV, PV.pls ds = true → PV.eqbs ds ds = true
  | [], _ => by simp [PV.eqbs]
  | x :: xs, h => by
    have h' : x.pl = true ∧ PV.pls xs = true := by simpa [PV.pls] using h
    rw [PV.eqbs, PV.eqb_refl x h'.1, PV.eqbs_refl xs h'.2]; rfl
end
abbrev prEq (xs ys : List PV) (j : Nat) : Bool := PV.eqb (xs.getD j .non) (ys.getD j .non)
theorem eqbs_range : ∀ xs ys : List PV, ((List.range (min xs.length ys.length)).all (prEq xs ys) && xs.length == ys.length) = PV.eqbs xs ys
  | [], [] => by simp [PV.eqbs]
  | [], _ :: _ => by simp [PV.eqbs]
  | _ :: _, [] => by simp [PV.eqbs]
  | x :: xs, y :: ys => by
    have ih := eqbs_range xs ys
    have e1 : min (x :: xs).length (y :: ys).length = min xs.length ys.length + 1 := by simp only [List.length_cons]; omega
    have e2 : ((x :: xs).length == (y :: ys).length) = (xs.length == ys.length) := by simp
    have e3 : (List.range (min xs.length ys.length + 1)).all (prEq (x :: xs) (y :: ys)) = (PV.eqb x y && (List.range (min xs.length ys.length)).all (prEq xs ys)) := by
      rw [List.range_succ_eq_map, List.all_cons, List.all_map]
      rfl
    rw [e1, e2, e3, PV.eqbs, ← ih, Bool.and_assoc]
theorem eqbs_same {xs ys : List PV} (h : xs.length = ys.length) : (List.range xs.length).all (prEq xs ys) = PV.eqbs xs ys := by
  have q := eqbs_range xs ys
  rw [← h, Nat.min_self, beq_self_eq_true, Bool.and_true] at q
  exact q
theorem eqbs_other {xs ys : List PV} (h : xs.length ≠ ys.length) : PV.eqbs xs ys = false := by
  rw [← eqbs_range xs ys, beq_false_of_ne h, Bool.and_false]

mutual
/-- a value of the machine that reads as data -/
inductive Rv (h : Heap) : Value → PV → Prop
  | non : Rv h .none .non
  | bl (b : Bool) : Rv h (.bool b) (.bl b)
  | int (i : Int) (t : Tok) : Rv h (.int i t) (.int i)
  | str (x : Str) (t : Tok) : Rv h (.str x t) (.str x)
  | tup {a : Addr} {us : List Value} {ds : List PV} : h.IsTuple a us.toArray → RvAll h us ds → Rv h (.ref a) (.tup ds)
  | lst {a : Addr} {us : List Value} {ds : List PV} : h.IsList a us.toArray → RvAll h us ds → Rv h (.ref a) (.lst ds)
inductive RvAll (h : Heap) : List Value → List PV → Prop
  | nil : RvAll h [] []
  | cons {u : Value} {us : List Value} {d : PV} {ds : List PV} : Rv h u d → RvAll h us ds → RvAll h (u :: us) (d :: ds)
end
theorem RvAll.length {h : Heap} : ∀ {us : List Value} {ds : List PV}, RvAll h us ds → us.length = ds.length
  | _, _, .nil => rfl
  | _, _, .cons _ r => by rw [List.length_cons, List.length_cons, RvAll.length r]
section
variable {X : Cx} {pins : List (Addr × Obj)} {σ : St} {H : Hp} {s : Shared} {w : Wd} {Z : Addr → Prop}
mutual
theorem Dn.rv (I : Inv X pins σ H s) : ∀ {v : V} {d : PV} {u : Value}, Dn ⟨fw X, Z⟩ w H v d → RelV v u → d.pl = true → Rv s.heap u d
  | _, _, _, .non, r, _ => by cases r; exact .non
  | _, _, _, .bl b, r, _ => by cases r; exact .bl b
  | _, _, _, .int i, r, _ => by obtain ⟨t, rfl⟩ := r; exact .int i t
  | _, _, _, .str x, r, _ => by obtain ⟨t, rfl⟩ := r; exact .str x t
  | _, _, _, .ref a, _, h => by simp [PV.pl] at h
  | _, _, _, .ty a, _, h => by simp [PV.pl] at h
  | _, _, _, .scr _ _, _, h => by simp [PV.pl] at h
  | _, _, _, .tpl _ _, _, h => by simp [PV.pl] at h
  | _, _, _, .tup h ds, r, hp => by
    cases r
    obtain ⟨its, rv, ht, _⟩ := I.tuple h.sq
    exact .tup ht (DnAll.rv I ds rv (by simpa [PV.pl] using hp))
  | _, _, _, .lst h ds, r, hp => by
    cases r
    obtain ⟨its, rv, ht, _⟩ := I.list h.sq
    exact .lst ht.isList (DnAll.rv I ds rv (by simpa [PV.pl] using hp))
theorem DnAll.rv (I : Inv X pins σ H s) : ∀ {vs : List V} {ds : List PV} {us : List Value}, DnAll ⟨fw X, Z⟩ w H vs ds → Vals vs us → PV.pls ds = true → RvAll s.heap us ds
  | _, _, _, .nil, r, _ => by cases r; exact .nil
  | _, _, _, .cons h hr, r, hp => by
    cases r with
    | cons r rr =>
      simp only [PV.pls, Bool.and_eq_true] at hp
      exact .cons (Dn.rv I h r hp.1) (DnAll.rv I hr rr hp.2)
end
end
mutual
/-- as a tuple like any other -/
def PV.weak : PV → PV
  | .tup xs => .tup (PV.weaks xs)
  | .lst xs => .lst (PV.weaks xs)
  | .tpl xs => .tup (PV.weaks xs)
  | d => d
def PV.weaks : List PV → List PV
  | [] => []
  | x :: xs => PV.weak x :: PV.weaks xs
end
mutual
theorem PV.weak_pl : ∀ d : PV, d.pl = true → d.weak = d
  | .non, _ => rfl
  | .bl _, _ => rfl
  | .int _, _ => rfl
  | .str _, _ => rfl
  | .ref _, _ => rfl
  | .ty _, _ => rfl
  | .scr _, _ => rfl
  | .tpl _, h => by simp [PV.pl] at h
  | .tup xs, h => by rw [PV.weak, PV.weaks_pl xs (by simpa [PV.pl] using h)]
  | .lst xs, h => by rw [PV.weak, PV.weaks_pl xs (by simpa [PV.pl] using h)]
theorem PV.weaks_pl : ∀ ds : List PV, PV.pls ds = true → PV.weaks ds = ds
  | [], _ => rfl
  | x :: r, h => by
    have h' : x.pl = true ∧ PV.pls r = true := by simpa [PV.pls] using h
    rw [PV.weaks, PV.weak_pl x h'.1, PV.weaks_pl r h'.2]
end
section
variable {X : Cx} {pins : List (Addr × Obj)} {σ : St} {H : Hp} {s : Shared} {w : Wd} {Z : Addr → Prop}
mutual
theorem Dn.rvw (I : Inv X pins σ H s) : ∀ {v : V} {d : PV} {u : Value}, Dn ⟨fw X, Z⟩ w H v d → RelV v u → d.weak.pl = true → Rv s.heap u d.weak
  | _, _, _, .non, r, _ => by cases r; exact .non
  | _, _, _, .bl b, r, _ => by cases r; exact .bl b
  | _, _, _, .int i, r, _ => by obtain ⟨t, rfl⟩ := r; exact .int i t
  | _, _, _, .str x, r, _ => by obtain ⟨t, rfl⟩ := r; exact .str x t
  | _, _, _, .ref a, _, h => by simp [PV.weak, PV.pl] at h
  | _, _, _, .ty a, _, h => by simp [PV.weak, PV.pl] at h
  | _, _, _, .scr _ _, _, h => by simp [PV.weak, PV.pl] at h
  | _, _, _, .tup h ds, r, hp => by
    cases r
    obtain ⟨its, rv, ht, _⟩ := I.tuple h.sq
    rw [PV.weak]
    exact .tup ht (DnAll.rvw I ds rv (by simpa [PV.weak, PV.pl] using hp))
  | _, _, _, .tpl h ds, r, hp => by
    cases r
    obtain ⟨its, rv, ht, _⟩ := I.tuple h.tq.sq
    rw [PV.weak]
    exact .tup ht (DnAll.rvw I ds rv (by simpa [PV.weak, PV.pl] using hp))
  | _, _, _, .lst h ds, r, hp => by
    cases r
    obtain ⟨its, rv, ht, _⟩ := I.list h.sq
    rw [PV.weak]
    exact .lst ht.isList (DnAll.rvw I ds rv (by simpa [PV.weak, PV.pl] using hp))
theorem DnAll.rvw (I : Inv X pins σ H s) : ∀ {vs : List V} {ds : List PV} {us : List Value}, DnAll ⟨fw X, Z⟩ w H vs ds → Vals vs us → PV.pls (PV.weaks ds) = true → RvAll s.heap us (PV.weaks ds)
  | _, _, _, .nil, r, _ => by cases r; exact .nil
  | _, _, _, .cons h hr, r, hp => by
    cases r with
    | cons r rr =>
      simp only [PV.weaks, PV.pls, Bool.and_eq_true] at hp
      rw [PV.weaks]
      exact .cons (Dn.rvw I h r hp.1) (DnAll.rvw I hr rr hp.2)
end
end
section
variable {h : Heap}
theorem tup_inj {a : Addr} {us vs : Array Value} (x : h.IsTuple a us) (y : h.IsTuple a vs) : us = vs := by
  obtain ⟨o, e, c, n, d⟩ := x
  obtain ⟨o', e', c', n', d'⟩ := y
  rw [e] at e'; cases e'
  rw [d] at d'
  injection d'
theorem lst_inj {a : Addr} {us vs : Array Value} (x : h.IsList a us) (y : h.IsList a vs) : us = vs := by
  obtain ⟨o, e, c, n, d⟩ := x
  obtain ⟨o', e', c', n', d'⟩ := y
  rw [e] at e'; cases e'
  rw [d] at d'
  injection d'
mutual
theorem Rv.uniq : ∀ {u : Value} {d e : PV}, Rv h u d → Rv h u e → d = e
  | _, _, _, .non, y => by cases y; rfl
  | _, _, _, .bl _, y => by cases y; rfl
  | _, _, _, .int _ _, y => by cases y; rfl
  | _, _, _, .str _ _, y => by cases y; rfl
  | _, _, _, .tup x xs, y => by
    cases y with
    | tup z zs =>
      have q : _ = _ := congrArg Array.toList (tup_inj x z)
      simp only at q
      subst q
      rw [RvAll.uniq xs zs]
    | lst z zs =>
      obtain ⟨o, e, c, _⟩ := x
      obtain ⟨o', e', c', _⟩ := z
      rw [e] at e'; cases e'; rw [c] at c'; exact absurd c' (by simp)
  | _, _, _, .lst x xs, y => by
    cases y with
    | lst z zs =>
      have q : _ = _ := congrArg Array.toList (lst_inj x z)
      simp only at q
      subst q
      rw [RvAll.uniq xs zs]
    | tup z zs =>
      obtain ⟨o, e, c, _⟩ := x
      obtain ⟨o', e', c', _⟩ := z
      rw [e] at e'; cases e'; rw [c] at c'; exact absurd c' (by simp)
theorem RvAll.uniq : ∀ {us : List Value} {ds es : List PV}, RvAll h us ds → RvAll h us es → ds = es
  | _, _, _, .nil, y => by cases y; rfl
  | _, _, _, .cons x xs, y => by
    cases y with
    | cons z zs => rw [Rv.uniq x z, RvAll.uniq xs zs]
end
end
open SeqAt in
mutual
theorem eqAt_rv : ∀ (d e : PV) (A : Around) (s : Shared) (u v : Value), Rv s.heap u d → Rv s.heap v e → d.pl = true → e.pl = true → A.units + min d.dep e.dep < cLine → EqAt A s u v (PV.eqb d e)
  | .non, e, A, s, _, _, ru, rv, _, _, hu => by
    cases ru
    cases rv with
    | non => simp only [PV.eqb]; exact EqAt.same _
    | bl c => simp only [PV.eqb]; exact EqAt.none_bool  _
    | int j t2 => simp only [PV.eqb]; exact EqAt.none_int  _ _
    | str y t2 => simp only [PV.eqb]; exact EqAt.none_str  _ _
    | tup z _ => simp only [PV.eqb]; exact EqAt.none_tuple  z (room_here hu)
    | lst z _ => simp only [PV.eqb]; exact EqAt.none_list  z (room_here hu)
  | .bl b, e, A, s, _, _, ru, rv, _, _, hu => by
    cases ru
    cases rv with
    | non => simp only [PV.eqb]; exact EqAt.bool_none _
    | bl c => simp only [PV.eqb]; exact EqAt.bool_bool _ _
    | int j t2 => simp only [PV.eqb]; exact EqAt.bool_int _ _ _
    | str y t2 => simp only [PV.eqb]; exact EqAt.bool_str _ _ _
    | tup z _ => simp only [PV.eqb]; exact EqAt.bool_tuple _ z (room_here hu)
    | lst z _ => simp only [PV.eqb]; exact EqAt.bool_list _ z (room_here hu)
  | .int i, e, A, s, _, _, ru, rv, _, _, hu => by
    cases ru
    cases rv with
    | non => simp only [PV.eqb]; exact EqAt.int_none _ _
    | bl c => simp only [PV.eqb]; exact EqAt.int_bool _ _ _
    | int j t2 => simp only [PV.eqb]; exact EqAt.int_int _ _ _ _
    | str y t2 => simp only [PV.eqb]; exact EqAt.int_str _ _ _ _
    | tup z _ => simp only [PV.eqb]; exact EqAt.int_tuple _ _ z (room_here hu)
    | lst z _ => simp only [PV.eqb]; exact EqAt.int_list _ _ z (room_here hu)
  | .str x, e, A, s, _, _, ru, rv, _, _, hu => by
    cases ru
    cases rv with
    | non => simp only [PV.eqb]; exact EqAt.str_none _ _
    | bl c => simp only [PV.eqb]; exact EqAt.str_bool _ _ _
    | int j t2 => simp only [PV.eqb]; exact EqAt.str_int _ _ _ _
    | str y t2 => simp only [PV.eqb]; exact EqAt.str_str _ _ _ _
    | tup z _ => simp only [PV.eqb]; exact EqAt.str_tuple _ _ z (room_here hu)
    | lst z _ => simp only [PV.eqb]; exact EqAt.str_list _ _ z (room_here hu)
  | .lst xs, e, A, s, _, _, ru, rv, hp, hq, hu => by
    cases ru with
    | @lst a us _ hl hr =>
      cases rv with
      | non => simp only [PV.eqb]; exact EqAt.list_none hl (room_here hu)
      | bl b => simp only [PV.eqb]; exact EqAt.list_bool _ hl (room_here hu)
      | int i t => simp only [PV.eqb]; exact EqAt.list_int _ _ hl (room_here hu)
      | str x t => simp only [PV.eqb]; exact EqAt.list_str _ _ hl (room_here hu)
      | tup hl' _ => simp only [PV.eqb]; exact EqAt.list_tuple hl hl' (room_here hu)
      | @lst a' us' ys hl' hr' =>
        have n1 := hr.length
        have n2 := hr'.length
        simp only [PV.eqb]
        by_cases ha : a = a'
        · subst ha
          have q : PV.lst xs = PV.lst ys := Rv.uniq (.lst hl hr) (.lst hl' hr')
          injection q with q
          subst q
          rw [PV.eqbs_refl xs (by simpa [PV.pl] using hp)]
          exact EqAt.same _
        · by_cases hz : us.length = us'.length
          · rw [← eqbs_same (by omega : xs.length = ys.length), ← n1]
            refine EqAt.of_refs ha ?_
            have z := RcAt.lists (e := prEq xs ys) hl hl' (by simpa using hz) (room_here hu) fun j j1 j2 => ?_
            · simpa using z
            · have z := eqAt_rvs xs ys A.in1 s us us' hr hr' (by simpa [PV.pl] using hp) (by simpa [PV.pl] using hq) (room_in (by simpa [PV.dep] using hu)) j (by simpa using j1) (by simpa using j2)
              simpa using z
          · rw [eqbs_other (by omega : xs.length ≠ ys.length)]
            exact EqAt.of_refs ha (RcAt.lists_lengths hl hl' (by simpa using hz) (room_here hu))
  | .tup xs, e, A, s, _, _, ru, rv, hp, hq, hu => by
    cases ru with
    | @tup a us _ hl hr =>
      cases rv with
      | non => simp only [PV.eqb]; exact EqAt.tuple_none hl (room_here hu)
      | bl b => simp only [PV.eqb]; exact EqAt.tuple_bool _ hl (room_here hu)
      | int i t => simp only [PV.eqb]; exact EqAt.tuple_int _ _ hl (room_here hu)
      | str x t => simp only [PV.eqb]; exact EqAt.tuple_str _ _ hl (room_here hu)
      | lst hl' _ => simp only [PV.eqb]; exact EqAt.tuple_list hl hl' (room_here hu)
      | @tup a' us' ys hl' hr' =>
        have n1 := hr.length
        have n2 := hr'.length
        simp only [PV.eqb]
        by_cases ha : a = a'
        · subst ha
          have q : PV.tup xs = PV.tup ys := Rv.uniq (.tup hl hr) (.tup hl' hr')
          injection q with q
          subst q
          rw [PV.eqbs_refl xs (by simpa [PV.pl] using hp)]
          exact EqAt.same _
        · rw [← eqbs_range xs ys, ← n1, ← n2]
          refine EqAt.of_refs ha ?_
          have z := RcAt.tuples (e := prEq xs ys) hl hl' (room_here hu) fun j j1 j2 => ?_
          · simpa using z
          · have z := eqAt_rvs xs ys A.in1 s us us' hr hr' (by simpa [PV.pl] using hp) (by simpa [PV.pl] using hq) (room_in (by simpa [PV.dep] using hu)) j (by simpa using j1) (by simpa using j2)
            simpa using z
  | .scr _, _, _, _, _, _, _, _, hp, _, _ => by simp [PV.pl] at hp
  | .ref _, _, _, _, _, _, _, _, hp, _, _ => by simp [PV.pl] at hp
  | .ty _, _, _, _, _, _, _, _, hp, _, _ => by simp [PV.pl] at hp
  | .tpl _, _, _, _, _, _, _, _, hp, _, _ => by simp [PV.pl] at hp
theorem eqAt_rvs : ∀ (ds es : List PV) (A : Around) (s : Shared) (us vs : List Value), RvAll s.heap us ds → RvAll s.heap vs es → PV.pls ds = true → PV.pls es = true → A.units + min (PV.deps ds) (PV.deps es) < cLine →
    ∀ j (h1 : j < us.length) (h2 : j < vs.length), EqAt A s us[j] vs[j] (prEq ds es j)
  | [], _, _, _, _, _, ru, _, _, _, _, j, h1, _ => by cases ru; exact absurd h1 (Nat.not_lt_zero _)
  | _ :: _, [], _, _, _, _, _, rv, _, _, _, j, _, h2 => by cases rv; exact absurd h2 (Nat.not_lt_zero _)
  | d :: ds, e :: es, A, s, _, _, ru, rv, hp, hq, hu, j, h1, h2 => by
    have hp' : d.pl = true ∧ PV.pls ds = true := by simpa [PV.pls] using hp
    have hq' : e.pl = true ∧ PV.pls es = true := by simpa [PV.pls] using hq
    cases ru with
    | cons r rs =>
      cases rv with
      | cons r' rs' =>
        cases j with
        | zero => exact eqAt_rv d e A s _ _ r r' hp'.1 hq'.1 (room_head (by simpa [PV.deps] using hu))
        | succ j => exact eqAt_rvs ds es A s _ _ rs rs' hp'.2 hq'.2 (room_tail (by simpa [PV.deps] using hu)) j (Nat.lt_of_succ_lt_succ h1) (Nat.lt_of_succ_lt_succ h2)
end
open SeqAt in
theorem rcAt_rv {d e : PV} {A : Around} {s : Shared} {u v : Value} (ru : Rv s.heap u d) (rv : Rv s.heap v e) (hp : d.pl = true) (hq : e.pl = true) (hu : A.units + min d.dep e.dep < cLine) :
    RcAt A s u v (PV.eqb d e) ∧ RcNeAt A s u v (!PV.eqb d e) := by
  have hh := room_here hu
  cases ru with
  | non =>
    cases rv with
    | non => simp only [PV.eqb]; exact ⟨RcAt.none_none, RcNeAt.none_none⟩
    | bl c => simp only [PV.eqb]; exact ⟨RcAt.none_bool  _, RcNeAt.none_bool  _⟩
    | int j t2 => simp only [PV.eqb]; exact ⟨RcAt.none_int  _ _, RcNeAt.none_int  _ _⟩
    | str y t2 => simp only [PV.eqb]; exact ⟨RcAt.none_str  _ _, RcNeAt.none_str  _ _⟩
    | tup z _ => simp only [PV.eqb]; exact ⟨RcAt.none_tuple  z hh, RcNeAt.none_tuple  z hh⟩
    | lst z _ => simp only [PV.eqb]; exact ⟨RcAt.none_list  z hh, RcNeAt.none_list  z hh⟩
  | bl b =>
    cases rv with
    | non => simp only [PV.eqb]; exact ⟨RcAt.bool_none _, RcNeAt.bool_none _⟩
    | bl c => simp only [PV.eqb]; exact ⟨RcAt.bool_bool _ _, RcNeAt.bool_bool _ _⟩
    | int j t2 => simp only [PV.eqb]; exact ⟨RcAt.bool_int _ _ _, RcNeAt.bool_int _ _ _⟩
    | str y t2 => simp only [PV.eqb]; exact ⟨RcAt.bool_str _ _ _, RcNeAt.bool_str _ _ _⟩
    | tup z _ => simp only [PV.eqb]; exact ⟨RcAt.bool_tuple _ z hh, RcNeAt.bool_tuple _ z hh⟩
    | lst z _ => simp only [PV.eqb]; exact ⟨RcAt.bool_list _ z hh, RcNeAt.bool_list _ z hh⟩
  | int i t =>
    cases rv with
    | non => simp only [PV.eqb]; exact ⟨RcAt.int_none _ _, RcNeAt.int_none _ _⟩
    | bl c => simp only [PV.eqb]; exact ⟨RcAt.int_bool _ _ _, RcNeAt.int_bool _ _ _⟩
    | int j t2 => simp only [PV.eqb]; exact ⟨RcAt.int_int _ _ _ _, RcNeAt.int_int _ _ _ _⟩
    | str y t2 => simp only [PV.eqb]; exact ⟨RcAt.int_str _ _ _ _, RcNeAt.int_str _ _ _ _⟩
    | tup z _ => simp only [PV.eqb]; exact ⟨RcAt.int_tuple _ _ z hh, RcNeAt.int_tuple _ _ z hh⟩
    | lst z _ => simp only [PV.eqb]; exact ⟨RcAt.int_list _ _ z hh, RcNeAt.int_list _ _ z hh⟩
  | str x t =>
    cases rv with
    | non => simp only [PV.eqb]; exact ⟨RcAt.str_none _ _, RcNeAt.str_none _ _⟩
    | bl c => simp only [PV.eqb]; exact ⟨RcAt.str_bool _ _ _, RcNeAt.str_bool _ _ _⟩
    | int j t2 => simp only [PV.eqb]; exact ⟨RcAt.str_int _ _ _ _, RcNeAt.str_int _ _ _ _⟩
    | str y t2 => simp only [PV.eqb]; exact ⟨RcAt.str_str _ _ _ _, RcNeAt.str_str _ _ _ _⟩
    | tup z _ => simp only [PV.eqb]; exact ⟨RcAt.str_tuple _ _ z hh, RcNeAt.str_tuple _ _ z hh⟩
    | lst z _ => simp only [PV.eqb]; exact ⟨RcAt.str_list _ _ z hh, RcNeAt.str_list _ _ z hh⟩
  | @lst a us xs hl hr =>
    cases rv with
    | non => simp only [PV.eqb]; exact ⟨RcAt.list_none hl hh, RcNeAt.list_none hl hh⟩
    | bl b => simp only [PV.eqb]; exact ⟨RcAt.list_bool _ hl hh, RcNeAt.list_bool _ hl hh⟩
    | int i t => simp only [PV.eqb]; exact ⟨RcAt.list_int _ _ hl hh, RcNeAt.list_int _ _ hl hh⟩
    | str x t => simp only [PV.eqb]; exact ⟨RcAt.list_str _ _ hl hh, RcNeAt.list_str _ _ hl hh⟩
    | tup hl' _ => simp only [PV.eqb]; exact ⟨RcAt.list_tuple hl hl' hh, RcNeAt.list_tuple hl hl' hh⟩
    | @lst a' us' ys hl' hr' =>
      have n1 := hr.length
      have n2 := hr'.length
      have he : ∀ j (j1 : j < us.toArray.size) (j2 : j < us'.toArray.size), EqAt A.in1 s us.toArray[j] us'.toArray[j] (prEq xs ys j) := fun j j1 j2 => by
        have z := eqAt_rvs xs ys A.in1 s us us' hr hr' (by simpa [PV.pl] using hp) (by simpa [PV.pl] using hq) (room_in (by simpa [PV.dep] using hu)) j (by simpa using j1) (by simpa using j2)
        simpa using z
      simp only [PV.eqb]
      by_cases hz : us.length = us'.length
      · rw [← eqbs_same (by omega : xs.length = ys.length), ← n1]
        have z1 := RcAt.lists (e := prEq xs ys) hl hl' (by simpa using hz) hh he
        have z2 := RcNeAt.lists (e := prEq xs ys) hl hl' (by simpa using hz) hh he
        exact ⟨by simpa using z1, by simpa using z2⟩
      · rw [eqbs_other (by omega : xs.length ≠ ys.length)]
        exact ⟨RcAt.lists_lengths hl hl' (by simpa using hz) hh, RcNeAt.lists_lengths hl hl' (by simpa using hz) hh⟩
  | @tup a us xs hl hr =>
    cases rv with
    | non => simp only [PV.eqb]; exact ⟨RcAt.tuple_none hl hh, RcNeAt.tuple_none hl hh⟩
    | bl b => simp only [PV.eqb]; exact ⟨RcAt.tuple_bool _ hl hh, RcNeAt.tuple_bool _ hl hh⟩
    | int i t => simp only [PV.eqb]; exact ⟨RcAt.tuple_int _ _ hl hh, RcNeAt.tuple_int _ _ hl hh⟩
    | str x t => simp only [PV.eqb]; exact ⟨RcAt.tuple_str _ _ hl hh, RcNeAt.tuple_str _ _ hl hh⟩
    | lst hl' _ => simp only [PV.eqb]; exact ⟨RcAt.tuple_list hl hl' hh, RcNeAt.tuple_list hl hl' hh⟩
    | @tup a' us' ys hl' hr' =>
      have n1 := hr.length
      have n2 := hr'.length
      have he : ∀ j (j1 : j < us.toArray.size) (j2 : j < us'.toArray.size), EqAt A.in1 s us.toArray[j] us'.toArray[j] (prEq xs ys j) := fun j j1 j2 => by
        have z := eqAt_rvs xs ys A.in1 s us us' hr hr' (by simpa [PV.pl] using hp) (by simpa [PV.pl] using hq) (room_in (by simpa [PV.dep] using hu)) j (by simpa using j1) (by simpa using j2)
        simpa using z
      simp only [PV.eqb]
      rw [← eqbs_range xs ys, ← n1, ← n2]
      have z1 := RcAt.tuples (e := prEq xs ys) hl hl' hh he
      have z2 := RcNeAt.tuples (e := prEq xs ys) hl hl' hh he
      exact ⟨by simpa using z1, by simpa using z2⟩
section
variable {X : Cx}
/-- == and != as rules of data -/
def rEqP (K : Fw) (neg : Bool) : R2 := fun x y H Q => ∃ Z w d e, Dn ⟨K, Z⟩ w H x d ∧ Dn ⟨K, Z⟩ w H y e ∧ d.weak.pl = true ∧ e.weak.pl = true ∧ d.weak.dep ≤ 64 ∧ Q (.bl (if neg then !PV.eqb d.weak e.weak else PV.eqb d.weak e.weak)) H
theorem op_eqP (hu : X.A.units + 64 < cLine) : OpR X (compareOp .Eq) (rEqP (fw X) false) := by
  intro pins s σ H x y v u Q I rx ry h
  obtain ⟨Z, w, d, e, h1, h2, p1, p2, hd, q⟩ := h
  have z := (rcAt_rv (A := X.A) (h1.rvw I rx p1) (h2.rvw I ry p2) p1 p2 (by have := Nat.min_le_left d.weak.dep e.weak.dep; omega)).1
  exact z X.prog X.w X.xe _ ⟨.bl _, H, I, rfl, q⟩
theorem op_neP (hu : X.A.units + 64 < cLine) : OpR X (compareOp .NotEq) (rEqP (fw X) true) := by
  intro pins s σ H x y v u Q I rx ry h
  obtain ⟨Z, w, d, e, h1, h2, p1, p2, hd, q⟩ := h
  have z := (rcAt_rv (A := X.A) (h1.rvw I rx p1) (h2.rvw I ry p2) p1 p2 (by have := Nat.min_le_left d.weak.dep e.weak.dep; omega)).2
  exact z X.prog X.w X.xe _ ⟨.bl _, H, I, rfl, q⟩
end
end Pd

/-! operators, indexes, slices, tests over data -/
namespace Pd
open PySem L2

/-- a list that may change, read as it stands now -/
def vw (w : Wd) : PV → PV
  | .ref a => match w a with
    | some (.lst ds) => .lst ds
    | _ => .ref a
  | .tpl ds => .tup ds
  | d => d
section
variable {K : Kz} {w : Wd} {H : Hp} {x : V} {d : PV}
theorem vwI {i : Int} (n : Dn K w H x d) (e : vw w d = .int i) : x = .int i := by
  cases n <;> simp [vw] at e
  · rw [e]
  · split at e <;> cases e
theorem vwS {i : Str} (n : Dn K w H x d) (e : vw w d = .str i) : x = .str i := by
  cases n <;> simp [vw] at e
  · rw [e]
  · split at e <;> cases e
theorem vwB {i : Bool} (n : Dn K w H x d) (e : vw w d = .bl i) : x = .bl i := by
  cases n <;> simp [vw] at e
  · rw [e]
  · split at e <;> cases e
theorem vwN (n : Dn K w H x d) (e : vw w d = .non) : x = .non := by
  cases n <;> simp [vw] at e
  · rfl
  · split at e <;> cases e
theorem vwTy {i : String} (n : Dn K w H x d) (e : vw w d = .ty i) : x = .ty i := by
  cases n <;> simp [vw] at e
  · split at e <;> cases e
  · rw [e]
theorem vwT {ds : List PV} (n : Dn K w H x d) (e : vw w d = .tup ds) : ∃ a xs, x = .ref a ∧ Tp K w H a xs ∧ DnAll K w H xs ds := by
  cases n <;> simp [vw] at e
  · split at e <;> cases e
  · subst e; exact ⟨_, _, rfl, by assumption, by assumption⟩
  · subst e; exact ⟨_, _, rfl, Pp.tq (by assumption), by assumption⟩
theorem vwL {ds : List PV} (k : Wk K w H) (n : Dn K w H x d) (e : vw w d = .lst ds) : ∃ a xs, x = .ref a ∧ H a = some (.lst xs) ∧ DnAll K w H xs ds := by
  cases n <;> simp [vw] at e
  case ref a =>
    split at e
    · rename_i z
      cases e
      cases k.at_ a _ z with
      | lst h1 h2 => exact ⟨_, _, rfl, h1, h2⟩
    · cases e
  case lst a xs es h1 h2 => subst e; exact ⟨_, _, rfl, h1.2.2, h2⟩
theorem vwZ {ds : List PV} (n : Dn K w H x d) (e : vw w d = .scr ds) : ∃ a xs, x = .ref a ∧ Zp K w H a xs ∧ DnAll K w H xs ds := by
  cases n <;> simp [vw] at e
  · split at e <;> cases e
  · subst e; exact ⟨_, _, rfl, by assumption, by assumption⟩
end
def dAdd : R2D := fun x y w Q => match vw w x, vw w y with
  | .int i, .int j => Q (.int (i + j)) w
  | .str a, .str b => a.length + b.length ≤ sizeLine ∧ Q (.str (a ++ b)) w
  | .lst a, .lst b => a.length + b.length ≤ sizeLine ∧ Q (.lst (a ++ b)) w
  | .tup a, .tup b => a.length + b.length ≤ sizeLine ∧ Q (.tup (a ++ b)) w
  | _, _ => False
def dInt (C : Int → Int → Prop) (g : Int → Int → PV) : R2D := fun x y w Q => match vw w x, vw w y with
  | .int i, .int j => C i j ∧ Q (g i j) w
  | _, _ => False
def dSub : R2D := fun x y w Q => match vw w x, vw w y with
  | .int i, .int j => Q (.int (i - j)) w
  | _, _ => False
def dMod : R2D := dInt (fun _ j => 0 < j) fun i j => .int (i % j)
def dFdiv : R2D := dInt CDivW fun i j => .int (i / j)
def dPow : R2D := dInt CPow fun i j => .int (i ^ j.toNat)
def dMul : R2D := fun x y w Q => match vw w x, vw w y with
  | .int i, .int j => (CMul i j ∨ CMulW i j) ∧ Q (.int (i * j)) w
  | .str a, .int n => MulOk a n ∧ Q (.str (Txt.mul a n)) w
  | _, _ => False
section
variable {X : Cx} {K : Fw} {a b c e : Expr} {ta tb tc : WE} {pos : Pos}
theorem opr_le {f : Value → Value → Sem Value} {r r' : R2} (h : OpR X f r) (hl : ∀ x y H Q, r' x y H Q → r x y H Q) : OpR X f r' := fun pins s σ H x y v u Q I rx ry q => h pins s σ H x y v u Q I rx ry (hl _ _ _ _ q)
theorem de_add (ha : DE X a ta) (hb : DE X b tb) : DE X (.BinOp a .Add b pos) (wOp dAdd ta tb) := by
  refine de_op (op_add.or (op_add_str.or (op_cat.or op_catA))) ?_ ha hb
  intro Z x y H dx dy w Q' Q k nx ny h kq
  unfold dAdd at h
  split at h
  · rename_i e1 e2
    cases vwI nx e1; cases vwI ny e2
    exact .inl ⟨_, _, rfl, rfl, kq _ _ (post_same k (.int _) h)⟩
  · rename_i e1 e2
    cases vwS nx e1; cases vwS ny e2
    exact .inr (.inl ⟨_, _, rfl, rfl, h.1, kq _ _ (post_same k (.str _) h.2)⟩)
  · rename_i e1 e2
    obtain ⟨a1, x1, rfl, h1, n1⟩ := vwL k nx e1
    obtain ⟨a2, x2, rfl, h2, n2⟩ := vwL k ny e2
    refine .inr (.inr (.inl ⟨a1, a2, x1, x2, rfl, rfl, h1, h2, by rw [n1.length, n2.length]; exact h.1, fun p hp => kq _ _ (post_lst k hp (n1.append n2) h.2)⟩))
  · rename_i e1 e2
    obtain ⟨a1, x1, rfl, h1, n1⟩ := vwT nx e1
    obtain ⟨a2, x2, rfl, h2, n2⟩ := vwT ny e2
    refine .inr (.inr (.inr ⟨a1, a2, x1, x2, rfl, rfl, h1.sq, h2.sq, by rw [n1.length, n2.length]; exact h.1, fun z => ?_, fun _ z => ?_, fun _ _ p hp => kq _ _ (post_tup k hp (n1.append n2) h.2)⟩))
    · subst z; cases n1; exact kq _ _ (post_same k (.tup h2 n2) h.2)
    · subst z; cases n2; exact kq _ _ (post_same k (.tup h1 n1) (by simpa using h.2))
  · exact h.elim
theorem l_int {C : Int → Int → Prop} {g : Int → Int → Int} : L2op K (rI C fun i j => V.int (g i j)) (dInt C fun i j => .int (g i j)) := by
  intro Z x y H dx dy w Q' Q k nx ny h kq
  unfold dInt at h
  split at h
  · rename_i e1 e2
    cases vwI nx e1; cases vwI ny e2
    exact ⟨_, _, rfl, rfl, h.1, kq _ _ (post_same k (.int _) h.2)⟩
  · exact h.elim
theorem de_sub (ha : DE X a ta) (hb : DE X b tb) : DE X (.BinOp a .Sub b pos) (wOp dSub ta tb) := by
  refine de_op op_sub ?_ ha hb
  intro Z x y H dx dy w Q' Q k nx ny h kq
  unfold dSub at h
  split at h
  · rename_i e1 e2
    cases vwI nx e1; cases vwI ny e2
    exact ⟨_, _, rfl, rfl, kq _ _ (post_same k (.int _) h)⟩
  · exact h.elim
theorem de_mod (ha : DE X a ta) (hb : DE X b tb) : DE X (.BinOp a .Mod b pos) (wOp dMod ta tb) := de_op op_mod l_int ha hb
theorem de_fdiv (ha : DE X a ta) (hb : DE X b tb) : DE X (.BinOp a .FloorDiv b pos) (wOp dFdiv ta tb) := de_op op_fdivW l_int ha hb
theorem de_pow (ha : DE X a ta) (hb : DE X b tb) : DE X (.BinOp a .Pow b pos) (wOp dPow ta tb) := de_op op_pow l_int ha hb
theorem op_mulS : OpR X (binaryOp .Mult) (fun x y H Q => ∃ i n, x = .str i ∧ y = .int n ∧ MulOk i n ∧ Q (.str (Txt.mul i n)) H) := by
  intro pins s σ H x y v u Q I rx ry h
  obtain ⟨i, n, rfl, rfl, hm, q⟩ := h
  obtain ⟨t, rfl⟩ := rx
  obtain ⟨t', rfl⟩ := ry
  exact SB.mul hm fun t2 k => ⟨.str _, H, I.tok _, ⟨_, rfl⟩, q⟩
theorem de_mul (ha : DE X a ta) (hb : DE X b tb) : DE X (.BinOp a .Mult b pos) (wOp dMul ta tb) := by
  refine de_op (op_mul.or (op_mulW.or op_mulS)) ?_ ha hb
  intro Z x y H dx dy w Q' Q k nx ny h kq
  unfold dMul at h
  split at h
  · rename_i e1 e2
    cases vwI nx e1; cases vwI ny e2
    rcases h.1 with z | z
    · exact .inl ⟨_, _, rfl, rfl, z, kq _ _ (post_same k (.int _) h.2)⟩
    · exact .inr (.inl ⟨_, _, rfl, rfl, z, kq _ _ (post_same k (.int _) h.2)⟩)
  · rename_i e1 e2
    cases vwS nx e1; cases vwI ny e2
    exact .inr (.inr ⟨_, _, rfl, rfl, h.1, kq _ _ (post_same k (.str _) h.2)⟩)
  · exact h.elim
/-- -a -/
def rNeg (x : PV) (w1 : Wd) (Q : WQ) : Prop := match vw w1 x with
  | .int i => Q (.int (-i)) w1
  | _ => False
def wNeg (ta : WE) : WE := fun ρ w Q => ta ρ w fun x w1 => rNeg x w1 Q
theorem de_neg (ha : DE X a ta) : DE X (.UnaryOp .USub a pos) (wNeg ta) :=
  pe_le (pe_un un_neg ha) fun σ H Q ⟨Z, ρ, w, Q', r, h, k⟩ => up1 r h fun x H1 d w1 e1 r1 n h1 => by
    unfold rNeg at h1
    split at h1
    · rename_i e
      cases vwI n e
      exact ⟨_, rfl, k _ _ (post_trans e1 (post_same r1.wk (.int _) h1))⟩
    · exact h1.elim

/-! comparisons -/
def dEq : R2D := fun x y w Q => (x.weak.pl = true ∧ y.weak.pl = true ∧ x.weak.dep ≤ 64) ∧ Q (.bl (PV.eqb x.weak y.weak)) w
def dNe : R2D := fun x y w Q => (x.weak.pl = true ∧ y.weak.pl = true ∧ x.weak.dep ≤ 64) ∧ Q (.bl (!PV.eqb x.weak y.weak)) w
/-- a comparison as a rule of data -/
structure CmD (X : Cx) (op : CmpOp) (rD : R2D) : Prop where
  ex : ∃ r, OpR X (compareOp op) r ∧ L2op (fw X) r rD
theorem de_cm {op : CmpOp} {rD : R2D} (h : CmD X op rD) (ha : DE X a ta) (hb : DE X b tb) (hk : behindInMarks op b = false) : DE X (.Compare a [op] [b] pos) (wOp rD ta tb) := by
  obtain ⟨r, ho, hl⟩ := h.ex
  exact de_cmp ho hl ha hb hk
theorem cm_eq (hu : X.A.units + 64 < cLine) : CmD X .Eq dEq := by
  refine ⟨_, op_eqP hu, ?_⟩
  intro Z x y H dx dy w Q' Q k nx ny h kq
  exact ⟨Z, w, dx, dy, nx, ny, h.1.1, h.1.2.1, h.1.2.2, kq _ _ (post_same k (.bl _) h.2)⟩
theorem cm_ne (hu : X.A.units + 64 < cLine) : CmD X .NotEq dNe := by
  refine ⟨_, op_neP hu, ?_⟩
  intro Z x y H dx dy w Q' Q k nx ny h kq
  exact ⟨Z, w, dx, dy, nx, ny, h.1.1, h.1.2.1, h.1.2.2, kq _ _ (post_same k (.bl _) h.2)⟩
/-- < and its like, of numbers and of texts -/
def dOrd (f : Int → Int → Bool) (g : List Nat → List Nat → Bool) : R2D := fun x y w Q => match vw w x, vw w y with
  | .int i, .int j => Q (.bl (f i j)) w
  | .str i, .str j => Q (.bl (g i.cps.toList j.cps.toList)) w
  | _, _ => False
def dLt : R2D := dOrd (fun i j => decide (i < j)) fun i j => decide (i < j)
def dLe : R2D := dOrd (fun i j => decide (i ≤ j)) fun i j => !decide (j < i)
def dGt : R2D := dOrd (fun i j => decide (j < i)) fun i j => decide (j < i)
def dGe : R2D := dOrd (fun i j => decide (j ≤ i)) fun i j => !decide (i < j)
theorem l_ord {f : Int → Int → Bool} {g : List Nat → List Nat → Bool} : L2op K (fun x y H Q => rI0 (fun i j => .bl (f i j)) x y H Q ∨ ∃ i j, x = .str i ∧ y = .str j ∧ Q (.bl (g i.cps.toList j.cps.toList)) H) (dOrd f g) := by
  intro Z x y H dx dy w Q' Q k nx ny h kq
  unfold dOrd at h
  split at h
  · rename_i e1 e2
    cases vwI nx e1; cases vwI ny e2
    exact .inl ⟨_, _, rfl, rfl, kq _ _ (post_same k (.bl _) h)⟩
  · rename_i e1 e2
    cases vwS nx e1; cases vwS ny e2
    exact .inr ⟨_, _, rfl, rfl, kq _ _ (post_same k (.bl _) h)⟩
  · exact h.elim
theorem cm_lt : CmD X .Lt dLt := ⟨_, op_lt.or op_lt_str, l_ord⟩
theorem cm_le : CmD X .LtE dLe := ⟨_, op_le.or op_le_str, l_ord⟩
theorem cm_gt : CmD X .Gt dGt := ⟨_, op_gt.or op_gt_str, l_ord⟩
theorem cm_ge : CmD X .GtE dGe := ⟨_, op_ge.or op_ge_str, l_ord⟩
/-- a truth -/
def onB (z : PV) (k : Bool → Prop) : Prop := match z with
  | .bl b => k b
  | _ => False
theorem onB_of {K : Kz} {w : Wd} {H : Hp} {x : V} {d : PV} {k : Bool → Prop} (n : Dn K w H x d) (h : onB d k) : ∃ b, x = .bl b ∧ d = .bl b ∧ k b := by
  cases n <;> simp [onB] at h
  exact ⟨_, rfl, rfl, h⟩
/-- a op b op c -/
def wChain (r r' : R2D) (ta tb tc : WE) : WE := fun ρ w Q => ta ρ w fun x w1 => tb ρ w1 fun y w2 => r x y w2 fun z w3 => onB z fun k => if k = true then tc ρ w3 fun u w4 => r' y u w4 Q else Q (.bl false) w3
theorem de_chain {op op' : CmpOp} {rD rD' : R2D} (c1 : CmD X op rD) (c2 : CmD X op' rD') (ha : DE X a ta) (hb : DE X b tb) (hc : DE X c tc)
    (h1 : lastMarks [op, op'] [b, c] = false := by with_unfolding_all rfl) : DE X (.Compare a [op, op'] [b, c] pos) (wChain rD rD' ta tb tc) := by
  obtain ⟨r, ho, hl⟩ := c1.ex
  obtain ⟨r', ho', hl'⟩ := c2.ex
  exact pe_le (pe_chain ho ho' ha hb hc h1) fun σ H Q ⟨Z, ρ, w, Q', r0, h, k⟩ => by
    refine up1 r0 h fun x H1 dx w1 e1 r1 n1 h1 => ?_
    refine up1 r1 h1 fun y H2 dy w2 e2 r2 n2 h2 => ?_
    refine hl Z x y H2 dx dy w2 _ _ r2.wk (n1.ext e2) n2 h2 fun z H3 ⟨dz, w3, e3, k3, n3, h3⟩ => ?_
    have r3 := r2.ext e3 k3
    obtain ⟨kb, rfl, rfl, h3⟩ := onB_of n3 h3
    refine ⟨kb, rfl, ?_⟩
    cases kb with
    | true =>
      refine iteT (up1 r3 h3 fun u H4 du w4 e4 r4 n4 h4 => ?_)
      exact hl' Z y u H4 dy du w4 _ _ r4.wk ((n2.ext e3).ext e4) n4 h4 fun v H5 p => k v H5 (post_trans (e1.trans (e2.trans (e3.trans e4))) p)
    | false => exact iteF (k _ _ (post_trans (e1.trans (e2.trans e3)) (post_same k3 (.bl _) h3)))
/-- is, is not: of None, of True and False -/
def isB (x y : PV) : Option Bool := match y with
  | .non => match x with
    | .non => some true
    | _ => some false
  | .bl b => match x with
    | .bl a => some (decide (a = b))
    | _ => none
  | _ => none
def dIs (neg : Bool) : R2D := fun x y w Q => match isB x y with
  | some k => Q (.bl (if neg then !k else k)) w
  | none => False
theorem nonIs {K : Kz} {w : Wd} {H : Hp} {x : V} {d : PV} (n : Dn K w H x d) {k : Bool} (h : isB d .non = some k) : decide (x = .non) = k := by
  cases n <;> simp [isB] at h <;> simp [h]
theorem cm_is : CmD X .Is (dIs false) := by
  refine ⟨_, op_isN.or op_isBl, ?_⟩
  intro Z x y H dx dy w Q' Q k nx ny h kq
  unfold dIs at h
  split at h
  · rename_i kk e
    cases ny with
    | non => exact .inl ⟨rfl, by rw [nonIs nx e]; exact kq _ _ (post_same k (.bl _) h)⟩
    | bl b =>
      cases nx <;> simp [isB] at e
      exact .inr ⟨_, _, rfl, rfl, by rw [e]; exact kq _ _ (post_same k (.bl _) h)⟩
    | _ => simp [isB] at e
  · exact h.elim
theorem cm_isnot : CmD X .IsNot (dIs true) := by
  refine ⟨_, op_notN.or op_notBl, ?_⟩
  intro Z x y H dx dy w Q' Q k nx ny h kq
  unfold dIs at h
  split at h
  · rename_i kk e
    cases ny with
    | non => exact .inl ⟨rfl, by rw [nonIs nx e]; exact kq _ _ (post_same k (.bl _) h)⟩
    | bl b =>
      cases nx <;> simp [isB] at e
      exact .inr ⟨_, _, rfl, rfl, by rw [e]; exact kq _ _ (post_same k (.bl _) h)⟩
    | _ => simp [isB] at e
  · exact h.elim
end
/-! in, not in -/
noncomputable def rdOf (h : Heap) (u : Value) : PV := by
  classical
  exact if e : ∃ d, Rv h u d then e.choose else .non
theorem rdOf_eq {h : Heap} {u : Value} {d : PV} (r : Rv h u d) : rdOf h u = d := by
  unfold rdOf
  have e : ∃ d, Rv h u d := ⟨d, r⟩
  rw [dif_pos e]
  exact e.choose_spec.uniq r
theorem rdOf_any {h : Heap} {f : PV → Bool} : ∀ {us : List Value} {ds : List PV}, RvAll h us ds → us.any (fun u => f (rdOf h u)) = ds.any f
  | _, _, .nil => rfl
  | _, _, .cons r rr => by rw [List.any_cons, List.any_cons, rdOf_eq r, rdOf_any rr]
theorem rvs_mem {h : Heap} : ∀ {us : List Value} {ds : List PV}, RvAll h us ds → ∀ u ∈ us, ∃ d ∈ ds, Rv h u d
  | _, _, .nil, u, hu => by cases hu
  | _, _, .cons r rr, u, hu => by
    rcases List.mem_cons.mp hu with rfl | hu
    · exact ⟨_, List.mem_cons_self, r⟩
    · obtain ⟨d, h1, h2⟩ := rvs_mem rr u hu
      exact ⟨d, List.mem_cons_of_mem _ h1, h2⟩
theorem pls_mem : ∀ {ds : List PV}, PV.pls ds = true → ∀ d ∈ ds, d.pl = true
  | [], _, d, hd => by cases hd
  | x :: xs, h, d, hd => by
    have h' : x.pl = true ∧ PV.pls xs = true := by simpa [PV.pls] using h
    rcases List.mem_cons.mp hd with rfl | hd
    · exact h'.1
    · exact pls_mem h'.2 d hd
section
variable {X : Cx} {a b : Expr} {ta tb : WE} {pos : Pos}
def rInP (K : Fw) (neg : Bool) : R2 := fun x y H Q => ∃ Z w d ys es p, Dn ⟨K, Z⟩ w H x d ∧ y = .ref p ∧ (SqL K.F H p ys ∨ SqT K.F H p ys) ∧ DnAll ⟨K, Z⟩ w H ys es ∧ d.pl = true ∧ PV.pls es = true ∧ d.dep ≤ 63 ∧ Q (.bl (if neg then !es.any (fun e => PV.eqb e d) else es.any (fun e => PV.eqb e d))) H
theorem in_items {s : Shared} {A : Around} {us : List Value} {es : List PV} {v : Value} {d : PV} (hu : A.units + 64 < cLine) (r : RvAll s.heap us es) (rd : Rv s.heap v d) (hp : d.pl = true) (hq : PV.pls es = true) (hd : d.dep ≤ 63) :
    ∀ u ∈ us.toArray, SeqAt.EqAt A.in1 s u v (PV.eqb (rdOf s.heap u) d) := fun u hm => by
  obtain ⟨e, he, re⟩ := rvs_mem r u (by simpa using hm)
  rw [rdOf_eq re]
  refine eqAt_rv e d A.in1 s u v re rd (pls_mem hq e he) hp ?_
  have h1 := Nat.min_le_right e.dep d.dep
  show A.units + 1 + min e.dep d.dep < cLine
  omega
theorem op_inP (hu : X.A.units + 64 < cLine) : OpR X (compareOp .In) (rInP (fw X) false) := by
  intro pins s σ H x y v u Q I rx ry h
  obtain ⟨Z, w, d, ys, es, p, hd, rfl, hq, hn, p1, p2, hz, q⟩ := h
  cases ry
  have rd := hd.rv I rx p1
  rcases hq with hq | hq
  · obtain ⟨its, r, pl, _⟩ := I.list hq
    have ra := hn.rv I r p2
    refine SeqAt.in_listAt (fun u => PV.eqb (rdOf s.heap u) d) pl.isList (in_items hu ra rd p1 p2 hz) ⟨.bl _, H, I, rfl, ?_⟩
    rw [show its.toArray.any (fun u => PV.eqb (rdOf s.heap u) d) = its.any (fun u => PV.eqb (rdOf s.heap u) d) by simp, rdOf_any (f := fun e => PV.eqb e d) ra]
    exact q
  · obtain ⟨its, r, pl, _⟩ := I.tuple hq
    have ra := hn.rv I r p2
    refine SeqAt.in_tupleAt (fun u => PV.eqb (rdOf s.heap u) d) pl (in_items hu ra rd p1 p2 hz) ⟨.bl _, H, I, rfl, ?_⟩
    rw [show its.toArray.any (fun u => PV.eqb (rdOf s.heap u) d) = its.any (fun u => PV.eqb (rdOf s.heap u) d) by simp, rdOf_any (f := fun e => PV.eqb e d) ra]
    exact q
theorem op_notInP (hu : X.A.units + 64 < cLine) : OpR X (compareOp .NotIn) (rInP (fw X) true) := by
  intro pins s σ H x y v u Q I rx ry h
  obtain ⟨Z, w, d, ys, es, p, hd, rfl, hq, hn, p1, p2, hz, q⟩ := h
  cases ry
  have rd := hd.rv I rx p1
  rcases hq with hq | hq
  · obtain ⟨its, r, pl, _⟩ := I.list hq
    have ra := hn.rv I r p2
    refine SeqAt.notIn_listAt (fun u => PV.eqb (rdOf s.heap u) d) pl.isList (in_items hu ra rd p1 p2 hz) ⟨.bl _, H, I, rfl, ?_⟩
    rw [show its.toArray.any (fun u => PV.eqb (rdOf s.heap u) d) = its.any (fun u => PV.eqb (rdOf s.heap u) d) by simp, rdOf_any (f := fun e => PV.eqb e d) ra]
    exact q
  · obtain ⟨its, r, pl, _⟩ := I.tuple hq
    have ra := hn.rv I r p2
    refine SeqAt.notIn_tupleAt (fun u => PV.eqb (rdOf s.heap u) d) pl (in_items hu ra rd p1 p2 hz) ⟨.bl _, H, I, rfl, ?_⟩
    rw [show its.toArray.any (fun u => PV.eqb (rdOf s.heap u) d) = its.any (fun u => PV.eqb (rdOf s.heap u) d) by simp, rdOf_any (f := fun e => PV.eqb e d) ra]
    exact q
/-- x in y: one sign in a text, data in a list or tuple of data -/
def dIn (neg : Bool) : R2D := fun x y w Q => match vw w y with
  | .str z => match x with
    | .str u => ∃ c, u = ⟨#[c]⟩ ∧ Q (.bl (if neg then !decide (c ∈ z.cps.toList) else decide (c ∈ z.cps.toList))) w
    | _ => False
  | .lst es => (x.pl = true ∧ PV.pls es = true ∧ x.dep ≤ 63) ∧ Q (.bl (if neg then !es.any (fun e => PV.eqb e x) else es.any (fun e => PV.eqb e x))) w
  | .tup es => (x.pl = true ∧ PV.pls es = true ∧ x.dep ≤ 63) ∧ Q (.bl (if neg then !es.any (fun e => PV.eqb e x) else es.any (fun e => PV.eqb e x))) w
  | _ => False
theorem cm_in (hu : X.A.units + 64 < cLine) : CmD X .In (dIn false) := by
  refine ⟨_, op_in_sign.or (op_inP hu), ?_⟩
  intro Z x y H dx dy w Q' Q k nx ny h kq
  unfold dIn at h
  split at h
  · rename_i e
    split at h
    · cases vwS ny e
      cases nx
      obtain ⟨c, rfl, h⟩ := h
      exact .inl ⟨c, _, rfl, rfl, kq _ _ (post_same k (.bl _) h)⟩
    · exact h.elim
  · rename_i e
    obtain ⟨p, ys, rfl, hh, hn⟩ := vwL k ny e
    exact .inr ⟨Z, w, dx, ys, _, p, nx, rfl, .inl (SqL.of hh), hn, h.1.1, h.1.2.1, h.1.2.2, kq _ _ (post_same k (.bl _) h.2)⟩
  · rename_i e
    obtain ⟨p, ys, rfl, hh, hn⟩ := vwT ny e
    exact .inr ⟨Z, w, dx, ys, _, p, nx, rfl, .inr hh.sq, hn, h.1.1, h.1.2.1, h.1.2.2, kq _ _ (post_same k (.bl _) h.2)⟩
  · exact h.elim
theorem cm_notin (hu : X.A.units + 64 < cLine) : CmD X .NotIn (dIn true) := by
  refine ⟨_, op_notIn_sign.or (op_notInP hu), ?_⟩
  intro Z x y H dx dy w Q' Q k nx ny h kq
  unfold dIn at h
  split at h
  · rename_i e
    split at h
    · cases vwS ny e
      cases nx
      obtain ⟨c, rfl, h⟩ := h
      exact .inl ⟨c, _, rfl, rfl, kq _ _ (post_same k (.bl _) h)⟩
    · exact h.elim
  · rename_i e
    obtain ⟨p, ys, rfl, hh, hn⟩ := vwL k ny e
    exact .inr ⟨Z, w, dx, ys, _, p, nx, rfl, .inl (SqL.of hh), hn, h.1.1, h.1.2.1, h.1.2.2, kq _ _ (post_same k (.bl _) h.2)⟩
  · rename_i e
    obtain ⟨p, ys, rfl, hh, hn⟩ := vwT ny e
    exact .inr ⟨Z, w, dx, ys, _, p, nx, rfl, .inr hh.sq, hn, h.1.1, h.1.2.1, h.1.2.2, kq _ _ (post_same k (.bl _) h.2)⟩
  · exact h.elim
end
end Pd

/-! tests, items, slices, displays, calls of built-ins, statements, loops -/
namespace Pd
open PySem L2

/-! tests -/
def wTest (t : WE) : WT := fun ρ w Q => t ρ w fun z w1 => onB z fun b => Q b w1
def wAndT (t u : WT) : WT := fun ρ w Q => t ρ w fun c w1 => if c = true then u ρ w1 Q else Q false w1
def wOrT (t u : WT) : WT := fun ρ w Q => t ρ w fun c w1 => if c = true then Q true w1 else u ρ w1 Q
def wNotT (t : WT) : WT := fun ρ w Q => t ρ w fun c w1 => Q (!c) w1
def wAndV (ta tb : WE) : WE := fun ρ w Q => ta ρ w fun x w1 => onB x fun c => if c = true then tb ρ w1 Q else Q (.bl false) w1
def wOrV (ta tb : WE) : WE := fun ρ w Q => ta ρ w fun x w1 => onB x fun c => if c = true then Q (.bl true) w1 else tb ρ w1 Q
def wNotV (ta : WE) : WE := fun ρ w Q => ta ρ w fun x w1 => onB x fun c => Q (.bl (!c)) w1
def wIfE (t : WT) (ta tb : WE) : WE := fun ρ w Q => t ρ w fun c w1 => if c = true then ta ρ w1 Q else tb ρ w1 Q
section
variable {X : Cx} {a b c e : Expr} {ta tb tc : WE} {tA tB : WT} {rest es : List Expr} {pos : Pos}
theorem dt_val (h : DE X e ta) (he : ∀ whole, isTrue e X.env whole = (do let v ← whole; standAt e.pos; holding [v] (truthy v)) := by intro _; rfl) : DT X e (wTest ta) :=
  pt_le (pt_val h he) fun σ H Q ⟨Z, ρ, w, Q', r, h, k⟩ => up1 r h fun x H1 d w1 e1 r1 n h1 => by
    obtain ⟨b, rfl, rfl, h1⟩ := onB_of n h1
    exact ⟨b, rfl, k _ _ ⟨w1, e1, r1.wk, h1⟩⟩
theorem dt_cm {op : CmpOp} {rD : R2D} (h : CmD X op rD) (ha : DE X a ta) (hb : DE X b tb) (hk : behindInMarks op b = false) : DT X (.Compare a [op] [b] pos) (wTest (wOp rD ta tb)) := by
  obtain ⟨r, ho, hl⟩ := h.ex
  refine pt_le (pt_cmpR ho ha hb hk) fun σ H Q ⟨Z, ρ, w, Q', r0, h, k⟩ => ?_
  refine up1 r0 h fun x H1 dx w1 e1 r1 n1 h1 => ?_
  refine up1 r1 h1 fun y H2 dy w2 e2 r2 n2 h2 => ?_
  refine hl Z x y H2 dx dy w2 _ _ r2.wk (n1.ext e2) n2 h2 fun z H3 ⟨dz, w3, e3, k3, n3, h3⟩ => ?_
  obtain ⟨b, rfl, rfl, h3⟩ := onB_of n3 h3
  exact ⟨b, rfl, k _ _ ⟨w3, e1.trans (e2.trans e3), k3, h3⟩⟩
theorem dt_chain {op op' : CmpOp} {rD rD' : R2D} (c1 : CmD X op rD) (c2 : CmD X op' rD') (ha : DE X a ta) (hb : DE X b tb) (hc : DE X c tc)
    (h1 : lastMarks [op, op'] [b, c] = false := by with_unfolding_all rfl) : DT X (.Compare a [op, op'] [b, c] pos) (wTest (wChain rD rD' ta tb tc)) := by
  obtain ⟨r, ho, hl⟩ := c1.ex
  obtain ⟨r', ho', hl'⟩ := c2.ex
  refine pt_le (pt_chain ho ho' ha hb hc h1) fun σ H Q ⟨Z, ρ, w, Q', r0, h, k⟩ => ?_
  refine up1 r0 h fun x H1 dx w1 e1 r1 n1 h1 => ?_
  refine up1 r1 h1 fun y H2 dy w2 e2 r2 n2 h2 => ?_
  refine hl Z x y H2 dx dy w2 _ _ r2.wk (n1.ext e2) n2 h2 fun z H3 ⟨dz, w3, e3, k3, n3, h3⟩ => ?_
  have r3 := r2.ext e3 k3
  obtain ⟨kb, rfl, rfl, h3⟩ := onB_of n3 h3
  refine ⟨kb, rfl, ?_⟩
  cases kb with
  | true =>
    refine iteT (up1 r3 h3 fun u H4 du w4 e4 r4 n4 h4 => ?_)
    refine hl' Z y u H4 dy du w4 _ _ r4.wk ((n2.ext e3).ext e4) n4 h4 fun v H5 ⟨d5, w5, e5, k5, n5, h5⟩ => ?_
    obtain ⟨b, rfl, rfl, h5⟩ := onB_of n5 h5
    exact ⟨b, rfl, k _ _ ⟨w5, e1.trans (e2.trans (e3.trans (e4.trans e5))), k5, h5⟩⟩
  | false =>
    refine iteF ?_
    have h3 : Q' false w3 := by simpa [onB] using h3
    exact ⟨false, rfl, k _ _ ⟨w3, e1.trans (e2.trans e3), k3, h3⟩⟩
theorem dw_and1 (ha : DT X a tA) : DW X (.BoolOp .And [a] pos) tA := pw_and1 ha
theorem dw_or1 (ha : DT X a tA) : DW X (.BoolOp .Or [a] pos) tA := pw_or1 ha
theorem dw_and (ha : DT X a tA) (hb : DW X (.BoolOp .And (b :: rest) pos) tB) : DW X (.BoolOp .And (a :: b :: rest) pos) (wAndT tA tB) :=
  pw_le (pw_and ha hb) fun σ H Q ⟨Z, ρ, w, Q', r, h, k⟩ => upT1 r h fun x H1 w1 e1 r1 h1 => by
    cases x with
    | true => exact iteT (upT1 r1 (by simpa using h1) fun y H2 w2 e2 r2 h2 => k _ _ ⟨w2, e1.trans e2, r2.wk, h2⟩)
    | false => exact iteF (k _ _ ⟨w1, e1, r1.wk, by simpa using h1⟩)
theorem dw_or (ha : DT X a tA) (hb : DW X (.BoolOp .Or (b :: rest) pos) tB) : DW X (.BoolOp .Or (a :: b :: rest) pos) (wOrT tA tB) :=
  pw_le (pw_or ha hb) fun σ H Q ⟨Z, ρ, w, Q', r, h, k⟩ => upT1 r h fun x H1 w1 e1 r1 h1 => by
    cases x with
    | true => exact iteT (k _ _ ⟨w1, e1, r1.wk, by simpa using h1⟩)
    | false => exact iteF (upT1 r1 (by simpa using h1) fun y H2 w2 e2 r2 h2 => k _ _ ⟨w2, e1.trans e2, r2.wk, h2⟩)
theorem dt_w (h : DW X e tA) : DT X e tA := PW.pt h
theorem dt_not (ha : DT X a tA) : DT X (.UnaryOp .Not a pos) (wNotT tA) :=
  pt_le (pt_not ha) fun σ H Q ⟨Z, ρ, w, Q', r, h, k⟩ => upT1 r h fun x H1 w1 e1 r1 h1 => k _ _ ⟨w1, e1, r1.wk, h1⟩
theorem de_one {op} (h : DE X a ta) : DE X (.BoolOp op [a] pos) ta := pe_one h
theorem de_and (ha : DE X a ta) (hb : DE X (.BoolOp .And (b :: rest) pos) tb) : DE X (.BoolOp .And (a :: b :: rest) pos) (wAndV ta tb) :=
  pe_le (pe_and ha hb) fun σ H Q ⟨Z, ρ, w, Q', r, h, k⟩ => up1 r h fun x H1 d w1 e1 r1 n h1 => by
    obtain ⟨kb, rfl, rfl, hq⟩ := onB_of n h1
    refine ⟨kb, rfl, ?_⟩
    cases kb with
    | true => exact iteT (up1 r1 (by simpa using hq) fun y H2 dy w2 e2 r2 n2 h2 => k _ _ ⟨dy, w2, e1.trans e2, r2.wk, n2, h2⟩)
    | false => exact iteF (k _ _ ⟨_, w1, e1, r1.wk, .bl _, by simpa using hq⟩)
theorem de_or (ha : DE X a ta) (hb : DE X (.BoolOp .Or (b :: rest) pos) tb) : DE X (.BoolOp .Or (a :: b :: rest) pos) (wOrV ta tb) :=
  pe_le (pe_or ha hb) fun σ H Q ⟨Z, ρ, w, Q', r, h, k⟩ => up1 r h fun x H1 d w1 e1 r1 n h1 => by
    obtain ⟨kb, rfl, rfl, hq⟩ := onB_of n h1
    refine ⟨kb, rfl, ?_⟩
    cases kb with
    | true => exact iteT (k _ _ ⟨_, w1, e1, r1.wk, .bl _, by simpa using hq⟩)
    | false => exact iteF (up1 r1 (by simpa using hq) fun y H2 dy w2 e2 r2 n2 h2 => k _ _ ⟨dy, w2, e1.trans e2, r2.wk, n2, h2⟩)
theorem de_not (ha : DE X a ta) : DE X (.UnaryOp .Not a pos) (wNotV ta) :=
  pe_le (pe_not ha) fun σ H Q ⟨Z, ρ, w, Q', r, h, k⟩ => up1 r h fun x H1 d w1 e1 r1 n h1 => by
    obtain ⟨kb, rfl, rfl, hq⟩ := onB_of n h1
    exact ⟨kb, rfl, k _ _ ⟨_, w1, e1, r1.wk, .bl _, hq⟩⟩
theorem de_ifE (hc : DT X c tA) (ha : DE X a ta) (hb : DE X b tb) : DE X (.IfExp c a b pos) (wIfE tA ta tb) :=
  pe_le (pe_ifExp hc ha hb) fun σ H Q ⟨Z, ρ, w, Q', r, h, k⟩ => upT1 r h fun x H1 w1 e1 r1 h1 => by
    cases x with
    | true => exact iteT (up1 r1 (by simpa using h1) fun y H2 dy w2 e2 r2 n2 h2 => k _ _ ⟨dy, w2, e1.trans e2, r2.wk, n2, h2⟩)
    | false => exact iteF (up1 r1 (by simpa using h1) fun y H2 dy w2 e2 r2 n2 h2 => k _ _ ⟨dy, w2, e1.trans e2, r2.wk, n2, h2⟩)

/-! items -/
def dIx : R2D := fun x y w Q => match vw w x, y with
  | .lst ds, .int i => ∃ d, atI ds i = some d ∧ Q d w
  | .tup ds, .int i => ∃ d, atI ds i = some d ∧ Q d w
  | .scr ds, .int i => ∃ d, atI ds i = some d ∧ Q d w
  | .str z, .int i => z.length ≤ sizeLine ∧ ∃ c, atI z.cps.toList i = some c ∧ Q (.str ⟨#[c]⟩) w
  | _, _ => False
theorem atI_dn {K : Kz} {w : Wd} {H : Hp} {vs : List V} {ds : List PV} {i : Int} {d : PV} (n : DnAll K w H vs ds) (h : atI ds i = some d) : ∃ v, atI vs i = some v ∧ Dn K w H v d := by
  unfold atI at h ⊢
  rw [n.length]
  cases e : ixN ds.length i with
  | none => rw [e] at h; cases h
  | some j =>
    rw [e] at h
    obtain ⟨v, h1, h2⟩ := n.get (show ds[j]? = some d from h)
    exact ⟨v, h1, h2⟩
theorem de_ix (ha : DE X a ta) (hb : DE X b tb) (hs : PlainIx b := by exact fun _ _ => rfl) : DE X (.Subscript a b pos) (wOp dIx ta tb) := by
  refine pe_le (pe_ix ix_seq ha hb hs) fun _ _ _ h => up_op (rD := dIx) ?_ h
  intro Z x y H dx dy w Q' Q k nx ny h kq
  unfold dIx at h
  split at h
  · rename_i e
    cases ny
    obtain ⟨p, ys, rfl, hh, hn⟩ := vwL k nx e
    obtain ⟨d, hd, q⟩ := h
    obtain ⟨v, h1, h2⟩ := atI_dn hn hd
    exact .inl ⟨p, ys, _, v, rfl, rfl, SqL.of hh, h1, kq _ _ (post_same k h2 q)⟩
  · rename_i e
    cases ny
    obtain ⟨p, ys, rfl, hh, hn⟩ := vwT nx e
    obtain ⟨d, hd, q⟩ := h
    obtain ⟨v, h1, h2⟩ := atI_dn hn hd
    exact .inr (.inl ⟨p, ys, _, v, rfl, rfl, hh.sq, h1, kq _ _ (post_same k h2 q)⟩)
  · rename_i e
    cases ny
    obtain ⟨p, ys, rfl, hh, hn⟩ := vwZ nx e
    obtain ⟨d, hd, q⟩ := h
    obtain ⟨v, h1, h2⟩ := atI_dn hn hd
    exact .inl ⟨p, ys, _, v, rfl, rfl, hh.sq, h1, kq _ _ (post_same k h2 q)⟩
  · rename_i e
    cases ny
    cases vwS nx e
    obtain ⟨hz, c, hc, q⟩ := h
    exact .inr (.inr ⟨_, _, c, rfl, rfl, hz, hc, kq _ _ (post_same k (.str _) q)⟩)
  · exact h.elim
end
/-! slices -/
abbrev WO := Sl → Wd → (Option Int → Wd → Prop) → Prop
def upO (K : Fw) (t : WO) : TO := fun σ H Q => ∃ Z ρ w Q', Rep ⟨K, Z⟩ ρ w σ H ∧ t ρ w Q' ∧ ∀ o H' w', Ext w H w' H' → Wk ⟨K, Z⟩ w' H' → Q' o w' → Q o H'
abbrev DO (X : Cx) (e : Option Expr) (t : WO) : Prop := PO X e (upO (fw X) t)
def wNo : WO := fun _ w Q => Q none w
def onI (x : PV) (k : Int → Prop) : Prop := match x with
  | .int i => k i
  | _ => False
def wPart (t : WE) : WO := fun ρ w Q => t ρ w fun x w1 => onI x fun i => Q (some i) w1
/-- the part of a list -/
def cutD {α : Type} (xs : List α) (lo hi : Option Int) : List α := (xs.drop (HT.sIx xs.length 0 lo)).take (HT.sIx xs.length xs.length hi - HT.sIx xs.length 0 lo)
def rSl (l u : Option Int) (x : PV) (w3 : Wd) (Q : WQ) : Prop := match vw w3 x with
  | .lst ds => Q (.lst (cutD ds l u)) w3
  | .scr ds => Q (.lst (cutD ds l u)) w3
  | .tup ds => Q (.tup (cutD ds l u)) w3
  | .str z => z.length ≤ sizeLine ∧ Q (.str (cutS z l u)) w3
  | _ => False
def wSl (te : WE) (tl th : WO) : WE := fun ρ w Q => te ρ w fun x w1 => tl ρ w1 fun l w2 => th ρ w2 fun u w3 => rSl l u x w3 Q
theorem DnAll.cut {K : Kz} {w : Wd} {H : Hp} {vs : List V} {ds : List PV} (n : DnAll K w H vs ds) (lo hi : Option Int) : DnAll K w H (cutV vs lo hi) (cutD ds lo hi) := by
  unfold cutV cutD
  rw [n.length]
  exact (n.drop _).take _
section
variable {X : Cx} {a b c e : Expr} {lo hi : Option Expr} {ta tb te : WE} {tl th : WO} {tA tB : WT} {rest es : List Expr} {pos p2 : Pos}
theorem do_none : DO X none wNo := ⟨fun pins s σ H Q I h => (po_none (X := X)).run pins s σ H Q I (by
  obtain ⟨Z, ρ, w, Q', r, h, k⟩ := h
  exact k _ _ w (Ext.refl _ _) r.wk h)⟩
theorem do_some (h : DE X e te) : DO X (some e) (wPart te) := ⟨fun pins s σ H Q I hh => (po_some h).run pins s σ H Q I (by
  obtain ⟨Z, ρ, w, Q', r, h, k⟩ := hh
  refine up1 r h fun x H1 d w1 e1 r1 n h1 => ?_
  cases n with
  | int i => exact ⟨i, rfl, k _ _ w1 e1 r1.wk h1⟩
  | _ => exact h1.elim)⟩
theorem de_slice (he : DE X e te) (hl : DO X lo tl) (hu : DO X hi th) : DE X (.Subscript e (.Slice lo hi none p2) pos) (wSl te tl th) := by
  refine pe_le (pe_slice (sl_list.or (sl_tupA.or sl_str)) he hl hu) fun σ H Q ⟨Z, ρ, w, Q', r, h, k⟩ => ?_
  refine up1 r h fun x H1 d w1 e1 r1 n1 h1 => ?_
  refine ⟨Z, ρ, w1, _, r1, h1, fun l H2 w2 e2 k2 h2 => ?_⟩
  have r2 := r1.ext e2 k2
  refine ⟨Z, ρ, w2, _, r2, h2, fun u H3 w3 e3 k3 h3 => ?_⟩
  have n3 := (n1.ext e2).ext e3
  have e13 := e1.trans (e2.trans e3)
  unfold rSl at h3
  split at h3
  · rename_i e
    obtain ⟨p, ys, rfl, hh, hn⟩ := vwL k3 n3 e
    exact .inl ⟨p, ys, rfl, SqL.of hh, fun q hq => k _ _ (post_trans e13 (post_lst k3 hq (hn.cut l u) h3))⟩
  · rename_i e
    obtain ⟨p, ys, rfl, hh, hn⟩ := vwZ n3 e
    exact .inl ⟨p, ys, rfl, hh.sq, fun q hq => k _ _ (post_trans e13 (post_lst k3 hq (hn.cut l u) h3))⟩
  · rename_i ds e
    obtain ⟨p, ys, rfl, hh, hn⟩ := vwT n3 e
    refine .inr (.inl ⟨p, ys, rfl, hh.sq, fun z => ?_, fun _ q hq => k _ _ (post_trans e13 (post_tup k3 hq (hn.cut l u) h3))⟩)
    have w1 : cutD ds l u = ds := by
      unfold cutD
      rw [← hn.length, z.1, z.2, List.drop_zero, hn.length, Nat.sub_zero, List.take_length]
    rw [w1] at h3
    exact k _ _ (post_trans e13 (post_same k3 (.tup hh hn) h3))
  · rename_i e
    cases vwS n3 e
    exact .inr (.inr ⟨_, rfl, h3.1, k _ _ (post_trans e13 (post_same k3 (.str _) h3.2))⟩)
  · exact h3.elim

/-! argument lists, displays -/
def wNil : WA := fun _ w Q => Q [] w
def wCons (ta : WE) (tr : WA) : WA := fun ρ w Q => ta ρ w fun x w1 => tr ρ w1 fun xs w2 => Q (x :: xs) w2
theorem da_nil : DA X [] wNil := pa_le pa_nil fun σ H Q ⟨Z, ρ, w, Q', r, h, k⟩ => k _ _ ⟨[], w, Ext.refl _ _, r.wk, .nil, h⟩
theorem da_cons {t : WA} (ha : DE X e te) (hr : DA X es t) (hs : starEach (e :: es) X.env = (false, eval e X.env) :: starEach es X.env := by rfl) : DA X (e :: es) (wCons te t) :=
  pa_le (pa_cons ha hr hs) fun σ H Q ⟨Z, ρ, w, Q', r, h, k⟩ => up1 r h fun x H1 d w1 e1 r1 n1 h1 => upA1 r1 h1 fun xs H2 ds w2 e2 r2 n2 h2 => k _ _ ⟨_, w2, e1.trans e2, r2.wk, .cons (n1.ext e2) n2, h2⟩
def wTup (t : WA) : WE := fun ρ w Q => t ρ w fun xs w1 => xs.length ≤ sizeLine ∧ Q (.tup xs) w1
def wLst (t : WA) : WE := fun ρ w Q => t ρ w fun xs w1 => xs.length ≤ sizeLine ∧ Q (.lst xs) w1
theorem de_tup {x1} {t : WA} (h : DA X es t) : DE X (.Tuple es x1 pos) (wTup t) :=
  pe_le (pe_tup h) fun σ H Q ⟨Z, ρ, w, Q', r, h, k⟩ => upA1 r h fun xs H1 ds w1 e1 r1 n1 h1 => ⟨by rw [n1.length]; exact h1.1, fun p hp => k _ _ (post_trans e1 (post_tup r1.wk hp n1 h1.2))⟩
theorem de_lst {t : WA} (h : DA X es t) : DE X (.List es pos) (wLst t) :=
  pe_le (pe_lst h) fun σ H Q ⟨Z, ρ, w, Q', r, h, k⟩ => upA1 r h fun xs H1 ds w1 e1 r1 n1 h1 => ⟨by rw [n1.length]; exact h1.1, fun p hp => k _ _ (post_trans e1 (post_lst r1.wk hp n1 h1.2))⟩

/-! a new list that may change: its own thing in the world -/
theorem post_mlst {K : Kz} {w : Wd} {H : Hp} {Q : WQ} {xs : List V} {ds : List PV} {p : Addr} (k : Wk K w H) (hp : H p = none) (n : DnAll K w H xs ds) (q : ∀ p, w p = none → Q (.ref p) (wset w p (.lst ds))) : Post K w H Q (.ref p) (upd H p (.lst xs)) := by
  have e : Ext w H (wset w p (.lst ds)) (upd H p (.lst xs)) := ⟨fun b o h1 h2 => by
    have q : b ≠ p := ne_of_none h2 hp
    exact ⟨by rw [wset_ne q]; exact h1, by rw [upd_ne q]; exact h2⟩, fun b kvs h _ => by
    obtain ⟨u, h2⟩ := (k.at_ b _ h).there
    have q : b ≠ p := ne_of_none h2 hp
    exact ⟨by rw [wset_ne q]; exact h, by rw [upd_ne q]⟩⟩
  refine ⟨.ref p, _, e, ⟨fun a m h => ?_, fun b z => ?_⟩, .ref p, q p (k.off hp)⟩
  rotate_left
  · obtain ⟨h1, o, h2⟩ := k.zin b z
    exact ⟨(e b o h1 h2).1, o, (e b o h1 h2).2⟩
  by_cases ha : a = p
  · subst ha
    rw [wset_same] at h
    cases h
    exact .lst upd_same (n.ext e)
  · rw [wset_ne ha] at h
    have hh : upd H p (.lst xs) a = H a := upd_ne ha
    cases k.at_ a m h with
    | lst h1 h2 => exact .lst (hh.trans h1) (h2.ext e)
    | dct h1 h2 => exact .dct (hh.trans h1) (h2.ext e)
    | lcl h1 h2 => exact .lcl (hh.trans h1) (h2.ext e)
    | dcl h1 h2 => exact .dcl (hh.trans h1) (h2.ext e)
    | dcp h1 h2 => exact .dcp (hh.trans h1) (KpOk.ext e h2)
    | ins h1 h2 => exact .ins (hh.trans h1) (h2.ext e)
    | tab h1 h2 => exact .tab (hh.trans h1) (h2.ext e)
def wMLst (t : WA) : WE := fun ρ w Q => t ρ w fun xs w1 => xs.length ≤ sizeLine ∧ ∀ p, w1 p = none → Q (.ref p) (wset w1 p (.lst xs))
theorem de_mlst {t : WA} (h : DA X es t) : DE X (.List es pos) (wMLst t) :=
  pe_le (pe_lst h) fun σ H Q ⟨Z, ρ, w, Q', r, h, k⟩ => upA1 r h fun xs H1 ds w1 e1 r1 n1 h1 => ⟨by rw [n1.length]; exact h1.1, fun p hp => k _ _ (post_trans e1 (post_mlst r1.wk hp n1 h1.2))⟩
end
end Pd

/-! calls, statements, loops, comprehensions -/
namespace Pd
open PySem L2

/-! built-ins by values -/
abbrev RcD := List PV → Wd → WQ → Prop
structure CaD (X : Cx) (f : Value) (rD : RcD) : Prop where
  ex : ∃ r, CallR X f r ∧ ∀ (Z : Addr → Prop) xs H ds w Q' (Q : VK), Wk ⟨fw X, Z⟩ w H → DnAll ⟨fw X, Z⟩ w H xs ds → rD ds w Q' → (∀ v H', Post ⟨fw X, Z⟩ w H Q' v H' → Q v H') → r xs H Q
def wCB (r : RcD) (t : WA) : WE := fun ρ w Q => t ρ w fun ds w1 => r ds w1 Q
section
variable {X : Cx} {x : Str} {p pos : Pos} {e : Expr} {es : List Expr} {t : WA} {nid T : String} {r : RcD}
theorem up_call {K : Fw} {r0 : List V → Hp → VK → Prop} {rD : RcD} (hl : ∀ (Z : Addr → Prop) xs H ds w Q' (Q : VK), Wk ⟨K, Z⟩ w H → DnAll ⟨K, Z⟩ w H xs ds → rD ds w Q' → (∀ v H', Post ⟨K, Z⟩ w H Q' v H' → Q v H') → r0 xs H Q) {t : WA} {σ : St} {H : Hp} {Q : VK}
    (h : upE K (wCB rD t) σ H Q) : tCB r0 (upA K t) σ H Q := by
  obtain ⟨Z, ρ, w, Q', rp, h, k⟩ := h
  exact upA1 rp h fun xs H1 ds w1 e1 r1 n1 h1 => hl Z xs H1 ds w1 Q' Q r1.wk n1 h1 fun v H' p => k v H' (post_trans e1 p)
theorem de_callB (hc : CaD X (.builtin nid) r) (hg : Gl X x) (hm : X.mg x = none) (hv : bootBuiltins x = some (.builtin nid)) (ha : DA X (e :: es) t) (hn : x ≠ "__name__" := by decide) (hdb : (x == ("__debug__" : Str)) = false := by decide)
    (he : starEach (e :: es) X.env = (false, eval e X.env) :: starEach es X.env := by rfl) (hpl : (backTo pos (starEach es X.env)).any (·.1) = false := by rfl) : DE X (.Call (.Name x p) (e :: es) [] pos) (wCB r t) := by
  obtain ⟨r0, h1, h2⟩ := hc.ex
  exact pe_le (pe_callB h1 hg hm hv ha hn hdb he hpl) fun _ _ _ h => up_call h2 h
theorem de_callTy (hc : CaD X (.type T) r) (hg : Gl X x) (hm : X.mg x = none) (hv : bootBuiltins x = some (.type T)) (ha : DA X (e :: es) t) (hn : x ≠ "__name__" := by decide) (hdb : (x == ("__debug__" : Str)) = false := by decide)
    (he : starEach (e :: es) X.env = (false, eval e X.env) :: starEach es X.env := by rfl) (hpl : (backTo pos (starEach es X.env)).any (·.1) = false := by rfl) : DE X (.Call (.Name x p) (e :: es) [] pos) (wCB r t) := by
  obtain ⟨r0, h1, h2⟩ := hc.ex
  exact pe_le (pe_callTy h1 hg hm hv ha hn hdb he hpl) fun _ _ _ h => up_call h2 h
theorem dall1 {K : Kz} {w : Wd} {H : Hp} {xs : List V} {d : PV} (n : DnAll K w H xs [d]) : ∃ v, xs = [v] ∧ Dn K w H v d := by
  cases n with
  | cons h r => cases r; exact ⟨_, rfl, h⟩
theorem dall2 {K : Kz} {w : Wd} {H : Hp} {xs : List V} {d e : PV} (n : DnAll K w H xs [d, e]) : ∃ v u, xs = [v, u] ∧ Dn K w H v d ∧ Dn K w H u e := by
  cases n with
  | cons h r =>
    obtain ⟨u, rfl, h2⟩ := dall1 r
    exact ⟨_, u, rfl, h, h2⟩
/-- len -/
def cLen : RcD := fun ds w Q => match ds with
  | [x] => match vw w x with
    | .lst es => Q (.int es.length) w
    | .tup es => Q (.int es.length) w
    | .scr es => Q (.int es.length) w
    | .str z => z.length ≤ sizeLine ∧ Q (.int z.length) w
    | _ => False
  | _ => False
theorem ca_len : CaD X (.builtin "len") cLen := by
  refine ⟨_, call_len_seq.or call_len_str, fun Z xs H ds w Q' Q k n h kq => ?_⟩
  unfold cLen at h
  split at h
  · obtain ⟨v, rfl, n1⟩ := dall1 n
    split at h
    · rename_i e
      obtain ⟨p, ys, rfl, hh, hn⟩ := vwL k n1 e
      exact .inl ⟨p, ys, rfl, .inl (SqL.of hh), by rw [hn.length]; exact kq _ _ (post_same k (.int _) h)⟩
    · rename_i e
      obtain ⟨p, ys, rfl, hh, hn⟩ := vwT n1 e
      exact .inl ⟨p, ys, rfl, .inr hh.sq, by rw [hn.length]; exact kq _ _ (post_same k (.int _) h)⟩
    · rename_i e
      obtain ⟨p, ys, rfl, hh, hn⟩ := vwZ n1 e
      exact .inl ⟨p, ys, rfl, .inl hh.sq, by rw [hn.length]; exact kq _ _ (post_same k (.int _) h)⟩
    · rename_i e
      cases vwS n1 e
      exact .inr ⟨_, rfl, h.1, kq _ _ (post_same k (.int _) h.2)⟩
    · exact h.elim
  · exact h.elim
/-- abs, max and min of two, int, ord -/
def cAbs : RcD := fun ds w Q => match ds with
  | [.int i] => Q (.int (if i < 0 then -i else i)) w
  | _ => False
theorem ca_abs : CaD X (.builtin "abs") cAbs := by
  refine ⟨_, call_abs, fun Z xs H ds w Q' Q k n h kq => ?_⟩
  unfold cAbs at h
  split at h
  · obtain ⟨v, rfl, n1⟩ := dall1 n
    cases n1
    exact ⟨_, rfl, kq _ _ (post_same k (.int _) h)⟩
  · exact h.elim
def cMax2 : RcD := fun ds w Q => match ds with
  | [.int i, .int j] => Q (.int (if j > i then j else i)) w
  | _ => False
theorem ca_max2 (hc : X.calm = true) : CaD X (.builtin "max") cMax2 := by
  refine ⟨_, call_max2 hc, fun Z xs H ds w Q' Q k n h kq => ?_⟩
  unfold cMax2 at h
  split at h
  · obtain ⟨v, u, rfl, n1, n2⟩ := dall2 n
    cases n1; cases n2
    exact ⟨_, _, rfl, kq _ _ (post_same k (.int _) h)⟩
  · exact h.elim
def cMin2 : RcD := fun ds w Q => match ds with
  | [.int i, .int j] => Q (.int (if j < i then j else i)) w
  | _ => False
theorem ca_min2 (hc : X.calm = true) : CaD X (.builtin "min") cMin2 := by
  refine ⟨_, call_min2 hc, fun Z xs H ds w Q' Q k n h kq => ?_⟩
  unfold cMin2 at h
  split at h
  · obtain ⟨v, u, rfl, n1, n2⟩ := dall2 n
    cases n1; cases n2
    exact ⟨_, _, rfl, kq _ _ (post_same k (.int _) h)⟩
  · exact h.elim
def cInt : RcD := fun ds w Q => match ds with
  | [.int i] => Q (.int i) w
  | [.bl b] => Q (.int (if b then 1 else 0)) w
  | _ => False
theorem ca_int : CaD X (.type "int") cInt := by
  refine ⟨_, call_int1, fun Z xs H ds w Q' Q k n h kq => ?_⟩
  unfold cInt at h
  split at h
  · obtain ⟨v, rfl, n1⟩ := dall1 n
    cases n1
    exact .inl ⟨_, rfl, kq _ _ (post_same k (.int _) h)⟩
  · obtain ⟨v, rfl, n1⟩ := dall1 n
    cases n1
    exact .inr ⟨_, rfl, kq _ _ (post_same k (.int _) h)⟩
  · exact h.elim
def cOrd : RcD := fun ds w Q => match ds with
  | [.str z] => z.length = 1 ∧ Q (.int (z.cps.getD 0 0 : Nat)) w
  | _ => False
theorem ca_ord : CaD X (.builtin "ord") cOrd := by
  refine ⟨_, call_ord, fun Z xs H ds w Q' Q k n h kq => ?_⟩
  unfold cOrd at h
  split at h
  · obtain ⟨v, rfl, n1⟩ := dall1 n
    cases n1
    exact ⟨_, rfl, h.1, kq _ _ (post_same k (.int _) h.2)⟩
  · exact h.elim
/-- list and tuple of a list or tuple -/
def seqOf (w : Wd) (d : PV) : Option (List PV) := match vw w d with
  | .lst es => some es
  | .tup es => some es
  | .scr es => some es
  | _ => none
def cList : RcD := fun ds w Q => match ds with
  | [x] => match seqOf w x with
    | some es => Q (.lst es) w
    | none => False
  | _ => False
def cTuple : RcD := fun ds w Q => match ds with
  | [x] => match seqOf w x with
    | some es => Q (.tup es) w
    | none => False
  | _ => False
theorem seqOf_sq {K : Kz} {w : Wd} {H : Hp} {v : V} {d : PV} {es : List PV} (k : Wk K w H) (n : Dn K w H v d) (h : seqOf w d = some es) : ∃ a xs, v = .ref a ∧ (SqL K.K.F H a xs ∨ Tp K w H a xs) ∧ DnAll K w H xs es := by
  unfold seqOf at h
  split at h
  · rename_i e; cases h
    obtain ⟨p, ys, rfl, hh, hn⟩ := vwL k n e
    exact ⟨p, ys, rfl, .inl (SqL.of hh), hn⟩
  · rename_i e; cases h
    obtain ⟨p, ys, rfl, hh, hn⟩ := vwT n e
    exact ⟨p, ys, rfl, .inr hh, hn⟩
  · rename_i e; cases h
    obtain ⟨p, ys, rfl, hh, hn⟩ := vwZ n e
    exact ⟨p, ys, rfl, .inl hh.sq, hn⟩
  · cases h
theorem ca_list : CaD X (.type "list") cList := by
  refine ⟨_, call_list_of, fun Z xs H ds w Q' Q k n h kq => ?_⟩
  unfold cList at h
  split at h
  · obtain ⟨v, rfl, n1⟩ := dall1 n
    split at h
    · rename_i e
      obtain ⟨p, ys, rfl, hh, hn⟩ := seqOf_sq k n1 e
      exact ⟨p, ys, rfl, hh.imp id fun z => z.sq, fun l hl => kq _ _ (post_lst k hl hn h)⟩
    · exact h.elim
  · exact h.elim
theorem ca_tuple : CaD X (.type "tuple") cTuple := by
  refine ⟨_, call_tuple_of, fun Z xs H ds w Q' Q k n h kq => ?_⟩
  unfold cTuple at h
  split at h
  · obtain ⟨v, rfl, n1⟩ := dall1 n
    split at h
    · rename_i e
      obtain ⟨p, ys, rfl, hh, hn⟩ := seqOf_sq k n1 e
      refine ⟨p, ys, rfl, ?_⟩
      rcases hh with hh | hh
      · exact .inl ⟨hh, fun l hl => kq _ _ (post_tup k hl hn h)⟩
      · exact .inr ⟨hh.sq, kq _ _ (post_same k (.tup hh hn) h)⟩
    · exact h.elim
  · exact h.elim
/-- all, any of a list of truths -/
def blsOf : List PV → Option (List Bool)
  | [] => some []
  | .bl b :: r => (blsOf r).map (b :: ·)
  | _ => none
theorem blsOf_dn {K : Kz} {w : Wd} {H : Hp} : ∀ {es : List PV} {bs : List Bool} {xs : List V}, blsOf es = some bs → DnAll K w H xs es → xs = bs.map V.bl
  | [], _, _, h, n => by cases h; cases n; rfl
  | .bl b :: r, bs, _, h, n => by
    cases n with
    | cons h1 h2 =>
      cases h1
      cases e : blsOf r with
      | none => simp [blsOf, e] at h
      | some cs =>
        have h' : b :: cs = bs := by simpa [blsOf, e] using h
        subst h'
        rw [blsOf_dn e h2]; rfl
  | .non :: _, _, _, h, _ => by simp [blsOf] at h
  | .int _ :: _, _, _, h, _ => by simp [blsOf] at h
  | .str _ :: _, _, _, h, _ => by simp [blsOf] at h
  | .tup _ :: _, _, _, h, _ => by simp [blsOf] at h
  | .lst _ :: _, _, _, h, _ => by simp [blsOf] at h
  | .scr _ :: _, _, _, h, _ => by simp [blsOf] at h
  | .ref _ :: _, _, _, h, _ => by simp [blsOf] at h
  | .ty _ :: _, _, _, h, _ => by simp [blsOf] at h
def cBls (f : List Bool → Bool) : RcD := fun ds w Q => match ds with
  | [.lst es] => ∃ bs, blsOf es = some bs ∧ Q (.bl (f bs)) w
  | _ => False
def cAll : RcD := cBls (·.all id)
def cAny : RcD := cBls (·.any id)
theorem ca_all (hc : X.calm = true) : CaD X (.builtin "all") cAll := by
  refine ⟨_, cr_all hc, fun Z xs H ds w Q' Q k n h kq => ?_⟩
  unfold cAll cBls at h
  split at h
  · obtain ⟨v, rfl, n1⟩ := dall1 n
    cases n1 with
    | lst hl hn =>
      obtain ⟨bs, hb, q⟩ := h
      have e := blsOf_dn hb hn
      subst e
      exact ⟨_, bs, rfl, hl.sq, kq _ _ (post_same k (.bl _) q)⟩
  · exact h.elim
theorem ca_any (hc : X.calm = true) : CaD X (.builtin "any") cAny := by
  refine ⟨_, cr_any hc, fun Z xs H ds w Q' Q k n h kq => ?_⟩
  unfold cAny cBls at h
  split at h
  · obtain ⟨v, rfl, n1⟩ := dall1 n
    cases n1 with
    | lst hl hn =>
      obtain ⟨bs, hb, q⟩ := h
      have e := blsOf_dn hb hn
      subst e
      exact ⟨_, bs, rfl, hl.sq, kq _ _ (post_same k (.bl _) q)⟩
  · exact h.elim
/-- isinstance -/
def tyName (w : Wd) : PV → Option String
  | .non => some "NoneType"
  | .bl _ => some "bool"
  | .int _ => some "int"
  | .str _ => some "str"
  | .tup _ => some "tuple"
  | .tpl _ => some "tuple"
  | .lst _ => some "list"
  | .scr _ => some "list"
  | .ref a => match w a with
    | some (.lst _) => some "list"
    | some (.dct _) => some "dict"
    | _ => none
  | .ty _ => none
def subTy (t c : String) : Bool := t == c || (t == "bool" && c == "int")
def knownC (c : String) : Bool := ["int", "bool", "str", "tuple", "list", "dict"].contains c
theorem tyName_x {K : Kz} {w : Wd} {H : Hp} {v : V} {d : PV} {t : String} (k : Wk K w H) (n : Dn K w H v d) (h : tyName w d = some t) : TyX K.K.F H v (.type t) ∧ ["NoneType", "bool", "int", "str", "tuple", "list", "dict"].contains t = true := by
  cases n with
  | non => cases h; exact ⟨.base .non, by decide⟩
  | bl b => cases h; exact ⟨.base (.bl b), by decide⟩
  | int i => cases h; exact ⟨.base (.int i), by decide⟩
  | str x => cases h; exact ⟨.base (.str x), by decide⟩
  | ty n => cases h
  | tup h1 _ =>
    cases h
    refine ⟨?_, by decide⟩
    rcases h1 with ⟨_, _, h1 | ⟨o, h1⟩⟩ | ⟨o, its, n, hk, hc, _⟩
    · exact .base (.tup h1)
    · exact .fTuple h1
    · exact .kTuple hk hc
  | tpl h1 _ =>
    cases h
    obtain ⟨_, _, o, h1, _⟩ := h1
    exact ⟨.fTuple h1, by decide⟩
  | lst h1 _ => cases h; exact ⟨.base (.lst h1.2.2), by decide⟩
  | scr h1 _ =>
    cases h
    refine ⟨?_, by decide⟩
    rcases h1 with ⟨_, _, h2 | ⟨o, h2⟩⟩ | ⟨o, its, n, hk, hc, _⟩
    · exact .base (.lst h2)
    · exact .base (.frz h2)
    · exact .kList hk hc
  | ref a =>
    simp only [tyName] at h
    split at h
    · rename_i e; cases h
      cases k.at_ a _ e with
      | lst h1 _ => exact ⟨.base (.lst h1), by decide⟩
    · rename_i e; cases h
      cases k.at_ a _ e with
      | dct h1 _ => exact ⟨.base (.dK h1), by decide⟩
    · cases h
theorem kit_known {K : Frag} {t c : String} (ht : ["NoneType", "bool", "int", "str", "tuple", "list", "dict"].contains t = true) (hc : knownC c = true) : PySem.W.kitOne K (.type t) (.type c) = some (subTy t c) := by
  refine kit_ty ?_
  have h1 : ∀ t ∈ ["NoneType", "bool", "int", "str", "tuple", "list", "dict"], ∀ c ∈ ["int", "bool", "str", "tuple", "list", "dict"], kitB t c = some (subTy t c) := by decide +kernel
  exact h1 t (by simpa using ht) c (by simpa [knownC] using hc)
def tysOf : List PV → Option (List String)
  | [] => some []
  | .ty c :: r => (tysOf r).map (c :: ·)
  | _ => none
/-- isinstance(x, (c1, ..)): a tuple laid, or a frozen one -/
def rIsiS (K : Frag) : List V → Hp → VK → Prop := fun xs H Q => ∃ (x : V) (tp : Addr) (cs : List V) (t : Value) (us : List Value) (b : Bool), xs = [x, .ref tp] ∧ SqT K H tp cs ∧ Paired ClsV cs us ∧ TyX K H x t ∧ PySem.W.kitAny K t us = some b ∧ Q (.bl b) H
theorem call_isiS {X : Cx} : CallR X (.builtin "isinstance") (rIsiS X.K) := by
  intro pins s σ H xs us Q I r h
  obtain ⟨x, tp, cs, t, ws, b, rfl, hT, k, ty, e, q⟩ := h
  obtain ⟨u1, u2, rfl, r1, r2⟩ := vals2 r
  cases (show u2 = Value.ref tp from r2)
  obtain ⟨P, Z, p, hx⟩ := kit_of I r1 ty
  obtain ⟨its, rv, ⟨o, h1, h2, n, h3⟩, _⟩ := I.tuple hT
  have e3 := ClsV.all k rv
  subst e3
  obtain ⟨oc, od, dt, sl⟩ := o
  simp only at h2 h3
  subst h2 h3
  exact PySem.W.kia_tup Z I.kIn p h1 e hx fun tk => ⟨.bl b, H, I.tok tk, rfl, q⟩
def cIsi : RcD := fun ds w Q => match ds with
  | [x, .ty c] => ∃ t, tyName w x = some t ∧ knownC c = true ∧ Q (.bl (subTy t c)) w
  | [x, .tup cs] => ∃ t us, tyName w x = some t ∧ tysOf cs = some us ∧ us.all knownC = true ∧ Q (.bl (us.any (subTy t))) w
  | _ => False
theorem tysOf_dn {K : Kz} {w : Wd} {H : Hp} : ∀ {es : List PV} {bs : List String} {xs : List V}, tysOf es = some bs → DnAll K w H xs es → Paired ClsV xs (bs.map Value.type)
  | [], _, _, h, n => by cases h; cases n; exact .nil
  | .ty b :: r, bs, _, h, n => by
    cases n with
    | cons h1 h2 =>
      cases h1
      cases e : tysOf r with
      | none => simp [tysOf, e] at h
      | some cs =>
        have h' : b :: cs = bs := by simpa [tysOf, e] using h
        subst h'
        exact .cons (.ty b) (tysOf_dn e h2)
  | .non :: _, _, _, h, _ => by simp [tysOf] at h
  | .int _ :: _, _, _, h, _ => by simp [tysOf] at h
  | .str _ :: _, _, _, h, _ => by simp [tysOf] at h
  | .tup _ :: _, _, _, h, _ => by simp [tysOf] at h
  | .lst _ :: _, _, _, h, _ => by simp [tysOf] at h
  | .scr _ :: _, _, _, h, _ => by simp [tysOf] at h
  | .ref _ :: _, _, _, h, _ => by simp [tysOf] at h
  | .bl _ :: _, _, _, h, _ => by simp [tysOf] at h
theorem kitAny_known {K : Frag} {t : String} (ht : ["NoneType", "bool", "int", "str", "tuple", "list", "dict"].contains t = true) : ∀ {us : List String}, us.all knownC = true → PySem.W.kitAny K (.type t) (us.map Value.type) = some (us.any (subTy t))
  | [], _ => rfl
  | c :: r, h => by
    simp only [List.all_cons, Bool.and_eq_true] at h
    refine kitAny_cons (b := subTy t c) (kit_known ht h.1) (fun z => ?_) fun z => ?_
    · rw [List.any_cons, z, Bool.false_or]; exact kitAny_known ht h.2
    · rw [List.any_cons, z, Bool.true_or]
theorem ca_isi : CaD X (.builtin "isinstance") cIsi := by
  refine ⟨_, call_isi.or (call_isiS.or call_isiK), fun Z xs H ds w Q' Q k n h kq => ?_⟩
  unfold cIsi at h
  split at h
  · obtain ⟨v, u, rfl, n1, n2⟩ := dall2 n
    cases n2
    obtain ⟨t, ht, hc, q⟩ := h
    obtain ⟨h1, h2⟩ := tyName_x k n1 ht
    exact .inl ⟨v, _, _, _, _, rfl, .ty _, h1, kit_known h2 hc, kq _ _ (post_same k (.bl _) q)⟩
  · obtain ⟨v, u, rfl, n1, n2⟩ := dall2 n
    obtain ⟨t, us, ht, hu, hc, q⟩ := h
    obtain ⟨h1, h2⟩ := tyName_x k n1 ht
    cases n2 with
    | tup hp hn =>
      rcases hp with ⟨_, _, hp⟩ | hp
      · exact .inr (.inl ⟨v, _, _, _, _, _, rfl, .inl hp, tysOf_dn hu hn, h1, kitAny_known h2 hc, kq _ _ (post_same k (.bl _) q)⟩)
      · obtain ⟨⟨oc, od, dt, sl⟩, its, m, hk, hcl, hd, _, hv⟩ := hp
        simp only at hcl hd
        subst hcl hd
        have z := ClsV.all (tysOf_dn hu hn) hv
        refine .inr (.inr ⟨v, _, od, us.map Value.type, m, sl, _, _, rfl, ?_, h1, kitAny_known h2 hc, kq _ _ (post_same k (.bl _) q)⟩)
        rw [← z]; simpa using hk
  · exact h.elim
end
end Pd

/-! calls of defs, statements, loops, comprehensions -/
namespace Pd
open PySem L2

/-! ### defs -/
abbrev PSp := List PV → Wd → WQ → Prop
def upSp (K : Fw) (p : PSp) : Sp := fun vs H Q _ => ∃ Z ds w Q', Wk ⟨K, Z⟩ w H ∧ DnAll ⟨K, Z⟩ w H vs ds ∧ p ds w Q' ∧ ∀ v H', Post ⟨K, Z⟩ w H Q' v H' → Q v H'
/-- the def of that name keeps a promise of data -/
structure FD (P : Program) (w : World) (K : Frag) (mg : Str → Option Value) (base : Heap) (x : Str) (k : Nat) (p : PSp) : Prop where
  ex : ∃ f fd ps, mg x = some (.ref f) ∧ PySem.W.keepIn K (.ref f) = true ∧ Binds K fd ps [] ∧ FnOk P w K mg base CX0 k f fd ps (upSp ⟨P, w, K⟩ p)
theorem FD.mono {P : Program} {w : World} {K : Frag} {mg : Str → Option Value} {base : Heap} {x : Str} {j k : Nat} {p : PSp} (F : FD P w K mg base x j p) (h : j ≤ k) : FD P w K mg base x k p := by
  obtain ⟨f, fd, ps, a, b, c, d⟩ := F.ex
  exact ⟨f, fd, ps, a, b, c, d.mono h⟩
theorem FD.imp {P : Program} {w : World} {K : Frag} {mg : Str → Option Value} {base : Heap} {x : Str} {k : Nat} {p p' : PSp} (F : FD P w K mg base x k p) (h : ∀ ds w Q, p' ds w Q → p ds w Q) : FD P w K mg base x k p' := by
  obtain ⟨f, fd, ps, a, b, c, d⟩ := F.ex
  exact ⟨f, fd, ps, a, b, c, d.imp fun vs H Q E ⟨Z, ds, w, Q', h2, h3, h4, h5⟩ => ⟨Z, ds, w, Q', h2, h3, h _ _ _ h4, h5⟩⟩
def wCall (p : PSp) (t : WA) : WE := fun ρ w Q => t ρ w fun ds w1 => p ds w1 Q
section
variable {X : Cx} {x : Str} {k : Nat} {pr : PSp} {p pos : Pos} {e : Expr} {es : List Expr} {t : WA}
theorem call_up {K : Fw} {pr : PSp} {t : WA} {σ : St} {H : Hp} {Q : VK} {E : XK} (h : upE K (wCall pr t) σ H Q) : tCall (upSp K pr) [] E (upA K t) σ H Q := by
  obtain ⟨Z, ρ, w, Q', r, h, kk⟩ := h
  refine upA1 r h fun vs H1 ds w1 e1 r1 n1 h1 => ?_
  exact ⟨Z, ds, w1, Q', r1.wk, by rw [List.append_nil]; exact n1, h1, fun v H' p => kk v H' (post_trans e1 p)⟩
theorem de_call (F : FD X.prog X.w X.K X.mg X.base x k pr) (hr : Room k X.A) (hg : Gl X x) (ha : DA X (e :: es) t) (hdb : (x == ("__debug__" : Str)) = false := by decide)
    (he : starEach (e :: es) X.env = (false, eval e X.env) :: starEach es X.env := by rfl) (hpl : (backTo pos (starEach es X.env)).any (·.1) = false := by rfl) : DE X (.Call (.Name x p) (e :: es) [] pos) (wCall pr t) := by
  obtain ⟨f, fd, ps, a, b, c, d⟩ := F.ex
  exact pe_le (pe_call d hr hg a b c .nil pass0 ha hdb he hpl) fun _ _ _ h => call_up h
theorem de_call0 (F : FD X.prog X.w X.K X.mg X.base x k pr) (hr : Room k X.A) (hg : Gl X x) (hdb : (x == ("__debug__" : Str)) = false := by decide) : DE X (.Call (.Name x p) [] [] pos) (wCall pr wNil) := by
  obtain ⟨f, fd, ps, a, b, c, d⟩ := F.ex
  refine pe_le (pe_call0 d hr hg a b c .nil pass0 hdb) fun σ H Q ⟨Z, ρ, w, Q', r, h, kk⟩ => ?_
  exact ⟨Z, [], w, Q', r.wk, .nil, h, kk⟩
end
/-- slots at the start -/
def begin0 (N : List Str) (ds : List PV) : Sl := ds.map some ++ List.replicate (N.length - ds.length) none
theorem begin_rep {K : Kz} {w : Wd} {H : Hp} {N : List Str} {vs : List V} {ds : List PV} (k : Wk K w H) (n : DnAll K w H vs ds) : Rep K (begin0 N ds) w (L2.start N vs) H := by
  unfold begin0 L2.start
  refine ⟨by simp [n.length], fun i d h => ?_, k⟩
  by_cases hi : i < ds.length
  · rw [List.getElem?_append_left (by simpa using hi), List.getElem?_map] at h
    rw [List.getElem?_append_left (by rw [List.length_map, n.length]; exact hi), List.getElem?_map]
    cases e : ds[i]? with
    | none => rw [e] at h; cases h
    | some d' =>
      rw [e] at h
      cases h
      obtain ⟨v, h1, h2⟩ := n.get e
      exact ⟨v, by rw [h1]; rfl, h2⟩
  · rw [List.getElem?_append_right (by simpa using hi), List.getElem?_replicate] at h
    split at h <;> cases h
section
variable {P : Program} {w : World} {K : Frag} {mg : Str → Option Value} {base : Heap}
/-- THE RULE for a def -/
theorem fd_mk {x qual : Str} {st : Stmt} {f : Addr} {fd : FuncData} {N ps : List Str} {k : Nat} {p : PSp} (F : Fun K x qual st f fd) (hm : mg x = some (.ref f)) (hb : Binds K fd ps []) (S : FnScope N ps (defScope st)) (len : ∀ ds w Q, p ds w Q → ds.length = ps.length)
    (body : ∀ (cdv : Value) (A : Around) (outer : List Env) (s : Shared) (H : Hp) (E : XK), Room k (A.deeper (PyProof.Rows.envOfC qual (defScope st) s.heap.objs.size f cdv)) →
      ∃ t, DSs (cxOf CX0 P w K mg base N qual (defScope st) f cdv A outer s H E).nox (defBody st) t ∧ ∀ ds w' Q, p ds w' Q → t { nx := fun _ w2 => Q .non w2, rt := Q } (begin0 N ds) w') : FD P w K mg base x (k + 1) p := by
  refine ⟨f, fd, ps, hm, F.kp, hb, F.ok S (fun vs H Q E h => ?_) fun cdv A outer s H vs Q E hr h => ?_⟩
  · obtain ⟨Z, ds, w, Q', h1, h2, h3, _⟩ := h
    rw [h2.length]
    exact len _ _ _ h3
  · obtain ⟨Z, ds, w, Q', h1, h2, h3, h4⟩ := h
    obtain ⟨t, ht, hp⟩ := body cdv A outer s H E hr
    refine ⟨_, ht, Z, begin0 N ds, w, _, begin_rep h1 h2, hp ds w Q' h3, ⟨fun σ' H' ρ' w' e r q => ?_, fun v H' q => h4 v H' q, fun _ _ _ _ _ _ q => q.elim, fun _ _ _ _ _ _ q => q.elim⟩⟩
    exact h4 _ _ ⟨.non, w', e, r.wk, .non, q⟩
end

/-! ### statements -/
section
variable {X : Cx} {st : Stmt} {rest sa sb : List Stmt} {t u : WS} {c e : Expr} {te : WE} {tc : WT} {pos : Pos}
def wNext : WS := fun D ρ w => D.nx ρ w
def wSeq2 (t u : WS) : WS := fun D ρ w => t { D with nx := u D } ρ w
theorem ds_nil : DSs X [] wNext := pss_le pss_nil fun D σ H ⟨Z, ρ, w, E, r, h, k⟩ => k.nx σ H ρ w (Ext.refl _ _) r h
theorem ds_cons (h1 : DS X st t) (h2 : DSs X rest u) : DSs X (st :: rest) (wSeq2 t u) :=
  pss_le (pss_cons h1 h2) fun D σ H ⟨Z, ρ, w, E, r, h, k⟩ => ⟨Z, ρ, w, { E with nx := u E }, r, h, ⟨fun σ' H' ρ' w' x r' q => ⟨Z, ρ', w', E, r', q, k.ext x⟩, k.rt, k.bk, k.ct⟩⟩
theorem ds_one (h1 : DS X st t) : DSs X [st] t := pss_one h1
theorem ds_pass : DS X (.Pass pos) wNext := ps_le ps_pass fun D σ H ⟨Z, ρ, w, E, r, h, k⟩ => k.nx σ H ρ w (Ext.refl _ _) r h
def wBreak : WS := fun D ρ w => D.bk ρ w
def wCont : WS := fun D ρ w => D.ct ρ w
theorem ds_break : DS X (.Break pos) wBreak := ps_le ps_break fun D σ H ⟨Z, ρ, w, E, r, h, k⟩ => k.bk σ H ρ w (Ext.refl _ _) r h
theorem ds_continue : DS X (.Continue pos) wCont := ps_le ps_continue fun D σ H ⟨Z, ρ, w, E, r, h, k⟩ => k.ct σ H ρ w (Ext.refl _ _) r h
def wDrop (te : WE) : WS := fun D ρ w => te ρ w fun _ w1 => D.nx ρ w1
theorem ds_expr (he : DE X e te) (hs : swapsWith e none pos.line X.env = pure false := by rfl) : DS X (.Expr e pos) (wDrop te) :=
  ps_le (ps_expr he hs) fun D σ H ⟨Z, ρ, w, E, r, h, k⟩ => up1 r h fun x H1 d w1 e1 r1 n h1 => k.nx σ H1 ρ w1 e1 r1 h1
def wRet (te : WE) : WS := fun D ρ w => te ρ w D.rt
theorem ds_ret (he : DE X e te) : DS X (.Return (some e) pos) (wRet te) :=
  ps_le (ps_ret he) fun D σ H ⟨Z, ρ, w, E, r, h, k⟩ => up1 r h fun x H1 d w1 e1 r1 n h1 => k.rt _ _ ⟨d, w1, e1, r1.wk, n, h1⟩
def wRetN : WS := fun D _ w => D.rt .non w
theorem ds_retN : DS X (.Return none pos) wRetN := ps_le ps_retN fun D σ H ⟨Z, ρ, w, E, r, h, k⟩ => k.rt _ _ ⟨.non, w, Ext.refl _ _, r.wk, .non, h⟩
def wIf (c : WT) (t u : WS) : WS := fun D ρ w => c ρ w fun b w1 => if b = true then t D ρ w1 else u D ρ w1
theorem ds_if (hc : DT X c tc) (ha : DSs X sa t) (hb : DSs X sb u) : DS X (.If c sa sb pos) (wIf tc t u) :=
  ps_le (ps_if hc ha hb) fun D σ H ⟨Z, ρ, w, E, r, h, k⟩ => upT1 r h fun b H1 w1 e1 r1 h1 => by
    cases b with
    | true => exact iteT ⟨Z, ρ, w1, E, r1, by simpa using h1, k.ext e1⟩
    | false => exact iteF ⟨Z, ρ, w1, E, r1, by simpa using h1, k.ext e1⟩

/-! targets -/
abbrev WG := PV → Sl → Wd → (Sl → Wd → Prop) → Prop
def upG (K : Fw) (g : WG) : TG := fun v σ H Q => ∃ Z ρ w d Q', Rep ⟨K, Z⟩ ρ w σ H ∧ Dn ⟨K, Z⟩ w H v d ∧ g d ρ w Q' ∧ ∀ σ' H' ρ' w', Ext w H w' H' → Rep ⟨K, Z⟩ ρ' w' σ' H' → Q' ρ' w' → Q σ' H'
abbrev DG (X : Cx) (tg : Expr) (g : WG) : Prop := PG X tg (upG (fw X) g)
theorem pg_le {tg : Expr} {g g' : TG} (h : PG X tg g) (hl : ∀ v σ H Q, g' v σ H Q → g v σ H Q) : PG X tg g' := ⟨fun pins s σ H v u Q I r q => h.run pins s σ H v u Q I r (hl v σ H Q q)⟩
theorem pgs_le {ts : List Expr} {g g' : TGs} (h : PGs X ts g) (hl : ∀ v σ H Q, g' v σ H Q → g v σ H Q) : PGs X ts g' := ⟨fun pins s σ H v u Q I r q => h.run pins s σ H v u Q I r (hl v σ H Q q)⟩
def wName (i : Nat) : WG := fun d ρ w Q => Q (ρ.set i (some d)) w
theorem dg_name {i : Nat} {x : Str} (hN : X.N.Nodup) (hi : X.N[i]? = some x) (hx : Loc X.env.scope x) (hf : X.fn x = true ∨ X.env.scope.names.lookup x = some .local := by first | exact .inl rfl | exact .inr rfl | assumption) : DG X (.Name x pos) (wName i) :=
  pg_le (pg_name hN hi hx hf) fun v σ H Q ⟨Z, ρ, w, d, Q', r, n, h, k⟩ => k _ _ _ _ (Ext.refl _ _) (r.set n i) h
abbrev WGs := List PV → Sl → Wd → (Sl → Wd → Prop) → Prop
def upGs (K : Fw) (g : WGs) : TGs := fun vs σ H Q => ∃ Z ρ w ds Q', Rep ⟨K, Z⟩ ρ w σ H ∧ DnAll ⟨K, Z⟩ w H vs ds ∧ g ds ρ w Q' ∧ ∀ σ' H' ρ' w', Ext w H w' H' → Rep ⟨K, Z⟩ ρ' w' σ' H' → Q' ρ' w' → Q σ' H'
def wgNil : WGs := fun ds ρ w Q => match ds with
  | [] => Q ρ w
  | _ => False
def wgCons (g : WG) (gs : WGs) : WGs := fun ds ρ w Q => match ds with
  | d :: r => g d ρ w fun ρ' w' => gs r ρ' w' Q
  | _ => False
theorem dgs_nil : PGs X [] (upGs (fw X) wgNil) := pgs_le pgs_nil fun vs σ H Q ⟨Z, ρ, w, ds, Q', r, n, h, k⟩ => by
  cases n with
  | nil => exact ⟨rfl, k _ _ _ _ (Ext.refl _ _) r h⟩
  | cons _ _ => exact h.elim
theorem dgs_cons {tg : Expr} {es : List Expr} {g : WG} {gs : WGs} (h1 : DG X tg g) (h2 : PGs X es (upGs (fw X) gs)) (hs : (assignEach (tg :: es) X.env).map (·.2) = assign tg X.env :: (assignEach es X.env).map (·.2) := by rfl) : PGs X (tg :: es) (upGs (fw X) (wgCons g gs)) :=
  pgs_le (pgs_cons h1 h2 hs) fun vs σ H Q ⟨Z, ρ, w, ds, Q', r, n, h, k⟩ => by
    cases n with
    | nil => exact h.elim
    | cons n1 n2 =>
      refine ⟨_, _, rfl, Z, ρ, w, _, _, r, n1, h, fun σ1 H1 ρ1 w1 e1 r1 h1 => ?_⟩
      exact ⟨Z, ρ1, w1, _, _, r1, n2.ext e1, h1, fun σ2 H2 ρ2 w2 e2 r2 h2 => k _ _ _ _ (e1.trans e2) r2 h2⟩
def wgTup (n : Nat) (gs : WGs) : WG := fun d ρ w Q => match d with
  | .tup ds => ds.length = n ∧ gs ds ρ w Q
  | _ => False
theorem dg_tup {es : List Expr} {k : Nat} {gs : WGs} {n : Nat} (hc : X.calm = true) (h : PGs X es (upGs (fw X) gs))
    (hn : (assignEach es X.env).length = n := by rfl) (hst : (assignEach es X.env).findIdx? (·.1) = none := by rfl) : DG X (.Tuple es k pos) (wgTup n gs) :=
  pg_le (pg_tup hc h hn hst) fun v σ H Q ⟨Z, ρ, w, d, Q', r, n1, h, k⟩ => by
    cases n1 with
    | tup hp hn => exact ⟨_, _, rfl, hp.sq, by rw [hn.length]; exact h.1, Z, ρ, w, _, _, r, hn, h.2, k⟩
    | _ => exact h.elim
/-- target = value -/
def wAsg (te : WE) (g : WG) : WS := fun D ρ w => te ρ w fun x w1 => g x ρ w1 D.nx
theorem ds_asg {tg : Expr} {g : WG} (he : DE X e te) (hg : DG X tg g) (hs : swapsWithSole [tg] e pos.line X.env = pure false := by rfl) (hw : swappedStores [tg] e X.env = pure none := by rfl)
    (h1 : (assignEach [tg] X.env).map (·.2) = [assign tg X.env] := by rfl) : DS X (.Assign [tg] e pos) (wAsg te g) :=
  ps_le (ps_asg he hg hs hw h1) fun D σ H ⟨Z, ρ, w, E, r, h, k⟩ => up1 r h fun x H1 d w1 e1 r1 n h1 => ⟨Z, ρ, w1, d, _, r1, n, h1, fun σ' H' ρ' w' e2 r2 h2 => k.nx _ _ _ _ (e1.trans e2) r2 h2⟩
/-- xs[i] = v, xs a list that may change -/
def rSub (d o i : PV) (w2 : Wd) (Q : Wd → Prop) : Prop := match o, i with
  | .ref a, .int k => match w2 a with
    | some (.lst ds) => ∃ j, ixN ds.length k = some j ∧ Q (wset w2 a (.lst (ds.set j d)))
    | _ => False
  | _, _ => False
def wgSub (to ti : WE) : WG := fun d ρ w Q => to ρ w fun o w1 => ti ρ w1 fun i w2 => rSub d o i w2 fun w3 => Q ρ w3
theorem Ext.put {w : Wd} {H : Hp} {a : Addr} {m m' : MO} {o : HO} (h : w a = some m) (hm : m.isL = false := by rfl) : Ext w H (wset w a m') (upd H a o) := ⟨fun b u h1 h2 => by
  have q : b ≠ a := fun z => by rw [z, h] at h1; cases h1
  exact ⟨by rw [wset_ne q]; exact h1, by rw [upd_ne q]; exact h2⟩, fun b kvs h1 l => by
  have q : b ≠ a := fun z => by rw [z, h] at h1; cases h1; rw [hm] at l; cases l
  exact ⟨by rw [wset_ne q]; exact h1, by rw [upd_ne q]⟩⟩
theorem Wk.put {K : Kz} {w : Wd} {H : Hp} {a : Addr} {m m' : MO} {o : HO} (k : Wk K w H) (h : w a = some m) (new : MOk K (wset w a m') (upd H a o) a m') (hm : m.isL = false := by rfl) : Wk K (wset w a m') (upd H a o) := by
 refine ⟨fun b x hb => ?_, fun b z => ?_⟩
 rotate_left
 · obtain ⟨h1, u, h2⟩ := k.zin b z
   have q := (Ext.put (m' := m') (o := o) h hm) b u h1 h2
   exact ⟨q.1, u, q.2⟩
 · by_cases q : b = a
   · subst q
     rw [wset_same] at hb
     cases hb
     exact new
   · rw [wset_ne q] at hb
     have e : Ext w H (wset w a m') (upd H a o) := Ext.put h hm
     have hh : upd H a o b = H b := upd_ne q
     cases k.at_ b x hb with
     | lst h1 h2 => exact .lst (hh.trans h1) (h2.ext e)
     | dct h1 h2 => exact .dct (hh.trans h1) (h2.ext e)
     | lcl h1 h2 => exact .lcl (hh.trans h1) (h2.ext e)
     | dcl h1 h2 => exact .dcl (hh.trans h1) (h2.ext e)
     | dcp h1 h2 => exact .dcp (hh.trans h1) (KpOk.ext e h2)
     | ins h1 h2 => exact .ins (hh.trans h1) (h2.ext e)
     | tab h1 h2 => exact .tab (hh.trans h1) (h2.ext e)
theorem dg_sub {o i : Expr} {to ti : WE} (ho : DE X o to) (hi : DE X i ti)
    (ha : ∀ v, assign (.Subscript o i pos) X.env v = (do
      let ov ← holding [v] (eval o X.env)
      let iv ← holding [v, ov] (eval i X.env)
      standAt pos
      holding [v, ov, iv] (setItem ov iv v)
      release [v, ov, iv] []) := by intro _; rfl) : DG X (.Subscript o i pos) (wgSub to ti) :=
  pg_le (pg_sub ho hi set_list ha) fun v σ H Q ⟨Z, ρ, w, d, Q', r, n, h, k⟩ => up1 r h fun ov H1 od w1 e1 r1 n1 h1 => up1 r1 h1 fun iv H2 id' w2 e2 r2 n2 h2 => by
    unfold rSub at h2
    split at h2
    · split at h2
      · rename_i ds e
        obtain ⟨j, hj, q⟩ := h2
        cases n1
        cases n2
        cases r2.wk.at_ _ _ e with
        | @lst xs _ h3 h4 =>
          have ep : Ext w2 H2 (wset w2 _ (.lst (ds.set j d))) (upd H2 _ (.lst (xs.set j v))) := Ext.put e
          refine ⟨_, _, _, j, rfl, rfl, h3, by rw [h4.length]; exact hj, k _ _ _ _ (e1.trans (e2.trans ep)) (r2.ext ep ?_) q⟩
          exact r2.wk.put e (.lst upd_same ((DnAll.set ((n.ext e1).ext e2) j h4).ext ep))
      · exact h2.elim
    · exact h2.elim
end
end Pd

/-! what is walked, for, while, comprehensions, join -/
namespace Pd
open PySem L2

/-- more is hidden, all of it new -/
def Zx (K : Kz) (H : Hp) (Z' : Addr → Prop) : Prop := ∀ b, Z' b → K.Z b ∨ H b = none
mutual
theorem Dn.hide {K : Kz} {w : Wd} {H : Hp} {Z' : Addr → Prop} (z : Zx K H Z') : ∀ {v : V} {d : PV}, Dn K w H v d → Dn ⟨K.K, Z'⟩ w H v d
  | _, _, .non => .non
  | _, _, .bl b => .bl b
  | _, _, .int i => .int i
  | _, _, .str x => .str x
  | _, _, .ref a => .ref a
  | _, _, .ty n => .ty n
  | _, _, .tup h r => .tup (by
      rcases h with ⟨h1, h2, h3⟩ | h
      · refine .inl ⟨h1, fun q => (z _ q).elim h2 (fun e => ?_), h3⟩
        rcases h3 with h3 | ⟨o, h3⟩ <;> (rw [h3] at e; cases e)
      · exact .inr h) (DnAll.hide z r)
  | _, _, .tpl h r => .tpl (by
      obtain ⟨h1, h2, o, h3, h4⟩ := h
      exact ⟨h1, fun q => (z _ q).elim h2 (fun e => by rw [h3] at e; cases e), o, h3, h4⟩) (DnAll.hide z r)
  | _, _, .lst h r => .lst ⟨h.1, fun q => (z _ q).elim h.2.1 (fun e => by rw [h.2.2] at e; cases e), h.2.2⟩ (DnAll.hide z r)
  | _, _, .scr h r => .scr (by
      rcases h with ⟨h1, h2, h3⟩ | h
      · refine .inl ⟨h1, fun q => (z _ q).elim h2 (fun e => ?_), h3⟩
        rcases h3 with h3 | ⟨o, h3⟩ <;> (rw [h3] at e; cases e)
      · exact .inr h) (DnAll.hide z r)
theorem DnAll.hide {K : Kz} {w : Wd} {H : Hp} {Z' : Addr → Prop} (z : Zx K H Z') : ∀ {vs : List V} {ds : List PV}, DnAll K w H vs ds → DnAll ⟨K.K, Z'⟩ w H vs ds
  | _, _, .nil => .nil
  | _, _, .cons h r => .cons (h.hide z) (DnAll.hide z r)
end
mutual
theorem Dn.less {K : Kz} {w : Wd} {H : Hp} {Z' : Addr → Prop} (z : ∀ b, Z' b → K.Z b) : ∀ {v : V} {d : PV}, Dn K w H v d → Dn ⟨K.K, Z'⟩ w H v d
  | _, _, .non => .non
  | _, _, .bl b => .bl b
  | _, _, .int i => .int i
  | _, _, .str x => .str x
  | _, _, .ref a => .ref a
  | _, _, .ty n => .ty n
  | _, _, .tup h r => .tup (by
      rcases h with ⟨h1, h2, h3⟩ | h
      · exact .inl ⟨h1, fun q => h2 (z _ q), h3⟩
      · exact .inr h) (DnAll.less z r)
  | _, _, .tpl h r => .tpl (by
      obtain ⟨h1, h2, o, h3, h4⟩ := h
      exact ⟨h1, fun q => h2 (z _ q), o, h3, h4⟩) (DnAll.less z r)
  | _, _, .lst h r => .lst ⟨h.1, fun q => h.2.1 (z _ q), h.2.2⟩ (DnAll.less z r)
  | _, _, .scr h r => .scr (by
      rcases h with ⟨h1, h2, h3⟩ | h
      · exact .inl ⟨h1, fun q => h2 (z _ q), h3⟩
      · exact .inr h) (DnAll.less z r)
theorem DnAll.less {K : Kz} {w : Wd} {H : Hp} {Z' : Addr → Prop} (z : ∀ b, Z' b → K.Z b) : ∀ {vs : List V} {ds : List PV}, DnAll K w H vs ds → DnAll ⟨K.K, Z'⟩ w H vs ds
  | _, _, .nil => .nil
  | _, _, .cons h r => .cons (h.less z) (DnAll.less z r)
end
/-- the iterator yields these data, whatever is made meanwhile -/
structure ItD (K : Kz) (J : It) (w : Wd) (H : Hp) (ds : List PV) : Prop where
  go : ∀ (i : Nat) w' H', Ext w H w' H' → i < ds.length → J.go i H'
  yld : ∀ (i : Nat) w' H' x H'' Z', Ext w H w' H' → Zx K H Z' → Wk ⟨K.K, Z'⟩ w' H' → i < ds.length → J.yld i H' x H'' → ∃ d, ds[i]? = some d ∧ Ext w' H' w' H'' ∧ Wk ⟨K.K, Z'⟩ w' H'' ∧ Dn ⟨K.K, Z'⟩ w' H'' x d
  stop : ∀ w' H', Ext w H w' H' → J.stop ds.length H'
theorem itd_list {K : Kz} {w : Wd} {H : Hp} {a : Addr} {xs : List V} {ds : List PV} (h : ∀ w' H', Ext w H w' H' → SqL K.K.F H' a xs) (n : DnAll K w H xs ds) : ItD K (Itl K.K.F a) w H ds where
  go := fun i w' H' e hi => by
    obtain ⟨v, h1, _⟩ := n.get (List.getElem?_eq_getElem hi)
    exact ⟨xs, v, h _ _ e, h1⟩
  yld := fun i w' H' x H'' Z' e z k hi ⟨h1, h2⟩ => by
    subst h1
    obtain ⟨d, h3, h4⟩ := n.get' (h2 xs (h _ _ e))
    exact ⟨d, h3, Ext.refl _ _, k, (h4.hide z).ext e⟩
  stop := fun w' H' e => ⟨xs, h _ _ e, by rw [n.length]; exact Nat.le_refl _⟩
theorem itd_tup {K : Kz} {w : Wd} {H : Hp} {a : Addr} {xs : List V} {ds : List PV} (h : Tp K w H a xs) (n : DnAll K w H xs ds) : ItD K (Itt K.K.F a) w H ds where
  go := fun i w' H' e hi => by
    obtain ⟨v, h1, _⟩ := n.get (List.getElem?_eq_getElem hi)
    exact ⟨xs, v, (h.ext e).sq, h1⟩
  yld := fun i w' H' x H'' Z' e z k hi ⟨h1, h2⟩ => by
    subst h1
    obtain ⟨d, h3, h4⟩ := n.get' (h2 xs (h.ext e).sq)
    exact ⟨d, h3, Ext.refl _ _, k, (h4.hide z).ext e⟩
  stop := fun w' H' e => ⟨xs, (h.ext e).sq, by rw [n.length]; exact Nat.le_refl _⟩
/-- a text's signs -/
def signs (z : Str) : List PV := z.cps.toList.map fun c => .str ⟨#[c]⟩
theorem signs_length (z : Str) : (signs z).length = z.cps.size := by simp [signs]
theorem itd_str {K : Kz} {w : Wd} {H : Hp} (z : Str) : ItD K (Its z) w H (signs z) where
  go := fun i w' H' e hi => by rw [signs_length] at hi; exact hi
  yld := fun i w' H' x H'' Z' e z' k hi ⟨h1, c, h2, h3⟩ => by
    subst h1; subst h3
    refine ⟨.str ⟨#[c]⟩, ?_, Ext.refl _ _, k, .str _⟩
    simp only [signs, List.getElem?_map, Array.getElem?_toList, h2, Option.map_some]
  stop := fun w' H' e => by rw [signs_length]; exact Nat.le_refl _
/-- lo, lo + 1, .. -/
def nums (lo : Int) (n : Nat) : List PV := (List.range n).map fun (i : Nat) => .int (lo + i)
theorem nums_length (lo : Int) (n : Nat) : (nums lo n).length = n := by simp [nums]
theorem itd_range {K : Kz} {w : Wd} {H : Hp} (lo : Int) (n : Nat) : ItD K (Itr lo n) w H (nums lo n) where
  go := fun i w' H' e hi => by rw [nums_length] at hi; exact hi
  yld := fun i w' H' x H'' Z' e z' k hi ⟨h1, h2⟩ => by
    subst h1; subst h2
    rw [nums_length] at hi
    refine ⟨.int (lo + i), ?_, Ext.refl _ _, k, .int _⟩
    simp [nums, List.getElem?_map, List.getElem?_range hi]
  stop := fun w' H' e => by rw [nums_length]; exact Nat.le_refl _
abbrev WI := Sl → Wd → (List PV → Wd → Prop) → Prop
def upI (K : Fw) (t : WI) : TI := fun σ H R => ∃ Z ρ w Q', Rep ⟨K, Z⟩ ρ w σ H ∧ t ρ w Q' ∧ ∀ J H' ds w', Ext w H w' H' → Wk ⟨K, Z⟩ w' H' → ItD ⟨K, Z⟩ J w' H' ds → Q' ds w' → R J H'
abbrev DI (X : Cx) (tg it : Expr) (t : WI) : Prop := PI X tg it (upI (fw X) t)
theorem pi_le {X : Cx} {tg it : Expr} {t t' : TI} (h : PI X tg it t) (hl : ∀ σ H R, t' σ H R → t σ H R) : PI X tg it t' := ⟨fun pins s σ H R I q => h.run pins s σ H R I (hl σ H R q)⟩
def onSeq (x : PV) (k : List PV → Prop) : Prop := match x with
  | .lst ds => k ds
  | .tup ds => k ds
  | .tpl ds => k ds
  | .scr ds => k ds
  | .str z => k (signs z)
  | _ => False
def wSeq (te : WE) : WI := fun ρ w Q => te ρ w fun x w1 => onSeq x fun ds => Q ds w1
section
variable {X : Cx} {tg e it c : Expr} {te : WE} {pos p : Pos} {ta : WA}
/-- a value that is walked -/
theorem pi_val {t : TE} (he : PE X e t) : PI X tg e (fun σ H R => t σ H fun x H1 => (∃ a xs, x = .ref a ∧ SqL X.K H1 a xs ∧ R (Itl X.K a) H1) ∨ (∃ a xs, x = .ref a ∧ SqT X.K H1 a xs ∧ R (Itt X.K a) H1) ∨ (∃ z, x = .str z ∧ R (Its z) H1)) := by
  refine ⟨fun pins s σ H R I h => ?_⟩
  refine thn (he.run pins s σ H _ I h) fun v s1 ⟨x, H1, I1, r1, q1⟩ => ?_
  rcases q1 with ⟨a, xs, rfl, hq, q⟩ | ⟨a, xs, rfl, hq, q⟩ | ⟨z, rfl, q⟩
  · cases r1
    obtain ⟨its, rv, pl, _⟩ := I1.list hq
    refine wpAny_pyIter_list pl.isList ?_
    exact pi_one (tk := s1.toks) I1 _ (turn_list a _) ⟨_, Heap.get?_push_size _ rfl, rfl, rfl⟩ q
  · cases r1
    obtain ⟨its, rv, pl, _⟩ := I1.tuple hq
    refine wpAny_pyIter_tuple (show s1.heap.IsTuple a its.toArray from pl) ?_
    exact pi_one (tk := s1.toks) I1 _ (turn_tuple a _) ⟨_, Heap.get?_push_size _ rfl, rfl, rfl⟩ q
  · obtain ⟨t, rfl⟩ := r1
    cases ha : z.cps.all (· < 128)
    · exact wpAny_pyIter_wide ha (pi_one (tk := s1.toks) I1 _ (turn_str _ z t "str_iterator" (.inr rfl)) ⟨_, Heap.get?_push_size _ rfl, rfl, rfl⟩ q)
    · exact wpAny_pyIter_ascii ha (pi_one (tk := s1.toks) I1 _ (turn_str _ z t "str_ascii_iterator" (.inl rfl)) ⟨_, Heap.get?_push_size _ rfl, rfl, rfl⟩ q)
theorem di_val (he : DE X e te) : DI X tg e (wSeq te) :=
  pi_le (pi_val he) fun σ H R ⟨Z, ρ, w, Q', r, h, k⟩ => up1 r h fun x H1 d w1 e1 r1 n h1 => by
    cases n with
    | tup hp hn => exact .inr (.inl ⟨_, _, rfl, hp.sq, k _ _ _ _ e1 r1.wk (itd_tup hp hn) h1⟩)
    | tpl hp hn => exact .inr (.inl ⟨_, _, rfl, hp.tq.sq, k _ _ _ _ e1 r1.wk (itd_tup hp.tq hn) h1⟩)
    | lst hp hn => exact .inl ⟨_, _, rfl, hp.sq, k _ _ _ _ e1 r1.wk (itd_list (fun _ _ e => (hp.ext e).sq) hn) h1⟩
    | scr hp hn => exact .inl ⟨_, _, rfl, hp.sq, k _ _ _ _ e1 r1.wk (itd_list (fun _ _ e => (hp.ext e).sq) hn) h1⟩
    | str z => exact .inr (.inr ⟨z, rfl, k _ _ _ _ e1 r1.wk (itd_str z) h1⟩)
    | _ => exact h1.elim
def rRng1 (ds : List PV) (k : List PV → Prop) : Prop := match ds with
  | [.int j] => (-(2 ^ 62) ≤ j ∧ j < 2 ^ 62) ∧ k (nums 0 j.toNat)
  | _ => False
def wRng1 (ta : WA) : WI := fun ρ w Q => ta ρ w fun ds w1 => rRng1 ds fun xs => Q xs w1
def rRng2 (ds : List PV) (k : List PV → Prop) : Prop := match ds with
  | [.int i, .int j] => (-(2 ^ 62) ≤ i ∧ i < 2 ^ 62 ∧ -(2 ^ 62) ≤ j ∧ j < 2 ^ 62) ∧ k (nums i (j - i).toNat)
  | _ => False
def wRng2 (ta : WA) : WI := fun ρ w Q => ta ρ w fun ds w1 => rRng2 ds fun xs => Q xs w1
theorem di_range1 {a : Expr} (hg : Gl X "range") (hm : X.mg "range" = none) (ha : DA X [a] ta) (hs : starEach [a] X.env = [(false, eval a X.env)] := by rfl) : DI X tg (.Call (.Name "range" p) [a] [] pos) (wRng1 ta) :=
  pi_le (pi_range1 hg hm ha hs) fun σ H R ⟨Z, ρ, w, Q', r, h, k⟩ => upA1 r h fun vs H1 ds w1 e1 r1 n h1 => by
    unfold rRng1 at h1
    split at h1
    · obtain ⟨v, rfl, n1⟩ := dall1 n
      cases n1
      exact ⟨_, rfl, h1.1.1, h1.1.2, k _ _ _ _ e1 r1.wk (itd_range 0 _) h1.2⟩
    · exact h1.elim
theorem di_range2 {a b : Expr} (hg : Gl X "range") (hm : X.mg "range" = none) (ha : DA X [a, b] ta) (hs : starEach [a, b] X.env = [(false, eval a X.env), (false, eval b X.env)] := by rfl) (hs2 : starEach [b] X.env = [(false, eval b X.env)] := by rfl) :
    DI X tg (.Call (.Name "range" p) [a, b] [] pos) (wRng2 ta) :=
  pi_le (pi_range2 hg hm ha hs hs2) fun σ H R ⟨Z, ρ, w, Q', r, h, k⟩ => upA1 r h fun vs H1 ds w1 e1 r1 n h1 => by
    unfold rRng2 at h1
    split at h1
    · obtain ⟨v, u, rfl, n1, n2⟩ := dall2 n
      cases n1; cases n2
      exact ⟨_, _, rfl, h1.1, k _ _ _ _ e1 r1.wk (itd_range _ _) h1.2⟩
    · exact h1.elim

/-! ### for -/
def forD (g : WG) (tb : WS) (E : WEnds) : List PV → Sl → Wd → Prop
  | [], ρ, w => E.nx ρ w
  | d :: r, ρ, w => g d ρ w fun ρ1 w1 => tb { nx := forD g tb E r, rt := E.rt, bk := E.nx, ct := forD g tb E r } ρ1 w1
def wFor (wi : WI) (g : WG) (tb : WS) : WS := fun E ρ w => wi ρ w fun ds w1 => forD g tb E ds ρ w1
theorem ds_for {body : List Stmt} {wi : WI} {g : WG} {tb : WS} (hp : PassesOwn (model X.prog X.w) X.A X.env X.xe) (hc : X.calm = true) (hi : DI X tg it wi) (hg : DG X tg g) (hb : DSs X body tb)
    (hs : ∀ x, foldedSetIterable it X.env x = pure x := by intro _; rfl) : DS X (.For tg it body [] pos) (wFor wi g tb) := by
  refine ps_le (ps_for hp hc hi hg hb hs) fun D σ H ⟨Z, ρ, w, E, r, h, k⟩ => ?_
  refine ⟨Z, ρ, w, _, r, h, fun J H1 ds w1 e1 k1 itd h1 => ?_⟩
  have hk1 := k.ext e1
  refine ⟨fun i m σ' H' => m = ds.length - i ∧ i ≤ ds.length ∧ ∃ ρ' w', Ext w1 H1 w' H' ∧ Rep ⟨fw X, Z⟩ ρ' w' σ' H' ∧ forD g tb E (ds.drop i) ρ' w', ⟨_, rfl, Nat.zero_le _, ρ, w1, Ext.refl _ _, r.ext e1 k1, h1⟩, ?_⟩
  rintro i m σ' H' ⟨rfl, hi, ρ', w', e', r', hf⟩
  by_cases hl : i < ds.length
  · refine .inr ⟨itd.go i w' H' e' hl, fun σ2 H2 => ∃ ρ2 w2, Ext w1 H1 w2 H2 ∧ Rep ⟨fw X, Z⟩ ρ2 w2 σ2 H2 ∧ forD g tb E (ds.drop (i + 1)) ρ2 w2, ?_, ?_⟩
    · rintro σ2 H2 ⟨ρ2, w2, e2, r2, h2⟩
      exact ⟨ds.length - (i + 1), by omega, rfl, hl, ρ2, w2, e2, r2, h2⟩
    · intro x H'' hy
      obtain ⟨d, hd, e3, k3, n3⟩ := itd.yld i w' H' x H'' Z e' (fun b z => .inl z) r'.wk hl hy
      have hdrop : ds.drop i = d :: ds.drop (i + 1) := by
        rw [List.drop_eq_getElem_cons hl]
        rw [List.getElem?_eq_getElem hl] at hd
        rw [Option.some.inj hd]
      rw [hdrop, forD] at hf
      have e'' := e'.trans e3
      refine ⟨Z, ρ', w', d, _, r'.ext e3 k3, n3, hf, fun σ4 H4 ρ4 w4 e4 r4 h4 => ?_⟩
      have e5 := e''.trans e4
      refine ⟨Z, ρ4, w4, _, r4, h4, ⟨fun σ6 H6 ρ6 w6 e6 r6 h6 => ⟨ρ6, w6, e5.trans e6, r6, h6⟩, (hk1.ext e5).rt, fun σ6 H6 ρ6 w6 e6 r6 h6 => (hk1.ext e5).nx _ _ _ _ e6 r6 h6, fun σ6 H6 ρ6 w6 e6 r6 h6 => ⟨ρ6, w6, e5.trans e6, r6, h6⟩⟩⟩
  · have hz : i = ds.length := by omega
    subst hz
    rw [List.drop_length, forD] at hf
    exact .inl ⟨itd.stop w' H' e', hk1.nx _ _ _ _ e' r' hf⟩
/-! ### while: so many turns at most -/
def whD (tc : WT) (tb : WS) (E : WEnds) : Nat → Sl → Wd → Prop
  | 0, _, _ => False
  | n + 1, ρ, w => tc ρ w fun b w1 => if b = true then tb { nx := whD tc tb E n, rt := E.rt, bk := E.nx, ct := whD tc tb E n } ρ w1 else E.nx ρ w1
def wWhile (tc : WT) (tb : WS) : WS := fun E ρ w => ∃ n, whD tc tb E n ρ w
theorem ds_while {body : List Stmt} {tc : WT} {tb : WS} (hp : PassesOwn (model X.prog X.w) X.A X.env X.xe) (hc : DT X c tc) (hb : DSs X body tb) : DS X (.While c body [] pos) (wWhile tc tb) := by
  refine ps_le (ps_while hp hc hb) fun D σ H ⟨Z, ρ, w, E, r, ⟨n, h⟩, k⟩ => ?_
  refine ⟨fun m σ' H' => ∃ ρ' w', Ext w H w' H' ∧ Rep ⟨fw X, Z⟩ ρ' w' σ' H' ∧ whD tc tb E m ρ' w', ⟨n, ρ, w, Ext.refl _ _, r, h⟩, ?_⟩
  rintro m σ' H' ⟨ρ', w', e', r', hf⟩
  cases m with
  | zero => exact hf.elim
  | succ m =>
    refine upT1 r' hf fun b H1 w1 e1 r1 h1 => ?_
    have e2 := e'.trans e1
    cases b with
    | true =>
      refine iteT ⟨fun σ2 H2 => ∃ ρ2 w2, Ext w H w2 H2 ∧ Rep ⟨fw X, Z⟩ ρ2 w2 σ2 H2 ∧ whD tc tb E m ρ2 w2, fun σ2 H2 z => ⟨m, Nat.lt_succ_self _, z⟩, ?_⟩
      refine ⟨Z, ρ', w1, { nx := whD tc tb E m, rt := E.rt, bk := E.nx, ct := whD tc tb E m }, r1, by simpa using h1, ⟨fun σ6 H6 ρ6 w6 e6 r6 h6 => ⟨ρ6, w6, e2.trans e6, r6, h6⟩, (k.ext e2).rt, fun σ6 H6 ρ6 w6 e6 r6 h6 => (k.ext e2).nx _ _ _ _ e6 r6 h6, fun σ6 H6 ρ6 w6 e6 r6 h6 => ⟨ρ6, w6, e2.trans e6, r6, h6⟩⟩⟩
    | false => exact iteF ((k.ext e2).nx _ _ _ _ (Ext.refl _ _) r1 (by simpa using h1))
end
end Pd

/-! comprehensions -/
namespace Pd
open PySem L2

theorem wipe_in {σ : St} {i : Nat} : ∀ {vs : List Nat}, i ∈ vs → i < σ.length → (wipe σ vs)[i]? = some none
  | [], h, _ => by cases h
  | v :: vs, h, hl => by
    unfold wipe
    by_cases e : v = i
    · subst e
      exact List.getElem?_set_self (by rw [wipe_length]; exact hl)
    · rw [List.getElem?_set_ne e]
      rcases List.mem_cons.mp h with z | z
      · exact absurd z.symm e
      · exact wipe_in z hl
theorem wipe_eq {σ τ : St} {vs : List Nat} (hl : σ.length = τ.length) (h : ∀ i, i ∉ vs → σ[i]? = τ[i]?) : wipe σ vs = wipe τ vs := by
  apply List.ext_getElem?
  intro i
  by_cases hi : i ∈ vs
  · by_cases hk : i < σ.length
    · rw [wipe_in hi hk, wipe_in hi (by omega)]
    · rw [List.getElem?_eq_none (by rw [wipe_length]; omega), List.getElem?_eq_none (by rw [wipe_length]; omega)]
  · rw [wipe_out hi, wipe_out hi, h i hi]
theorem wipe_set {σ : St} {i : Nat} {o : Option V} {vs : List Nat} (h : i ∈ vs) : wipe (σ.set i o) vs = wipe σ vs :=
  wipe_eq (by simp) fun j hj => by
    have ne : i ≠ j := fun e => hj (by rw [← e]; exact h)
    rw [List.getElem?_set_ne ne]
theorem wipe_wipe {σ : St} {vs : List Nat} : wipe (wipe σ vs) vs = wipe σ vs := wipe_eq (wipe_length _ _) fun i hi => wipe_out hi
def wipeD (ρ : Sl) : List Nat → Sl
  | [] => ρ
  | v :: vs => (wipeD ρ vs).set v none
theorem wipeD_length (ρ : Sl) : ∀ vs : List Nat, (wipeD ρ vs).length = ρ.length
  | [] => rfl
  | v :: vs => by unfold wipeD; rw [List.length_set, wipeD_length ρ vs]
theorem wipeD_some {ρ : Sl} {i : Nat} {x : PV} : ∀ {vs : List Nat}, (wipeD ρ vs)[i]? = some (some x) → ρ[i]? = some (some x) ∧ i ∉ vs
  | [], h => ⟨h, by simp⟩
  | v :: vs, h => by
    unfold wipeD at h
    by_cases hi : v = i
    · subst hi
      by_cases hv : v < (wipeD ρ vs).length
      · rw [List.getElem?_set_self hv] at h; cases h
      · rw [List.getElem?_eq_none (by simpa using hv)] at h; cases h
    · rw [List.getElem?_set_ne hi] at h
      obtain ⟨h1, h2⟩ := wipeD_some h
      exact ⟨h1, by simp only [List.mem_cons, not_or]; exact ⟨fun e => hi e.symm, h2⟩⟩
theorem Rep.wipe {K : Kz} {ρ : Sl} {w : Wd} {σ : St} {H : Hp} (r : Rep K ρ w σ H) (vs : List Nat) : Rep K (wipeD ρ vs) w (L2.wipe σ vs) H :=
  ⟨by rw [wipeD_length, wipe_length]; exact r.len, fun i d h => by
    obtain ⟨h1, h2⟩ := wipeD_some h
    obtain ⟨v, h3, h4⟩ := r.sl i d h1
    exact ⟨v, by rw [wipe_out h2]; exact h3, h4⟩, r.wk⟩
/-- targets of a comprehension: they store its own names alone -/
def upGw (K : Fw) (vs : List Nat) (g : WG) : TG := fun v σ H Q => ∃ Z ρ w d Q', Rep ⟨K, Z⟩ ρ w σ H ∧ Dn ⟨K, Z⟩ w H v d ∧ g d ρ w Q' ∧ ∀ σ' H' ρ' w', Ext w H w' H' → Rep ⟨K, Z⟩ ρ' w' σ' H' → L2.wipe σ' vs = L2.wipe σ vs → Q' ρ' w' → Q σ' H'
def upGsw (K : Fw) (vs : List Nat) (g : WGs) : TGs := fun us σ H Q => ∃ Z ρ w ds Q', Rep ⟨K, Z⟩ ρ w σ H ∧ DnAll ⟨K, Z⟩ w H us ds ∧ g ds ρ w Q' ∧ ∀ σ' H' ρ' w', Ext w H w' H' → Rep ⟨K, Z⟩ ρ' w' σ' H' → L2.wipe σ' vs = L2.wipe σ vs → Q' ρ' w' → Q σ' H'
abbrev DGw (X : Cx) (vs : List Nat) (tg : Expr) (g : WG) : Prop := PG X tg (upGw (fw X) vs g)
section
variable {X : Cx} {tg e it elt : Expr} {te : WE} {pos p : Pos} {vs : List Nat}
theorem dgw_name {i : Nat} {x : Str} (hN : X.N.Nodup) (hi : X.N[i]? = some x) (hx : Loc X.env.scope x) (hm : i ∈ vs) (hf : X.fn x = true ∨ X.env.scope.names.lookup x = some .local := by first | exact .inl rfl | exact .inr rfl | assumption) : DGw X vs (.Name x pos) (wName i) :=
  pg_le (pg_name hN hi hx hf) fun v σ H Q ⟨Z, ρ, w, d, Q', r, n, h, k⟩ => k _ _ _ _ (Ext.refl _ _) (r.set n i) (wipe_set hm) h
theorem dgsw_nil : PGs X [] (upGsw (fw X) vs wgNil) := pgs_le pgs_nil fun us σ H Q ⟨Z, ρ, w, ds, Q', r, n, h, k⟩ => by
  cases n with
  | nil => exact ⟨rfl, k _ _ _ _ (Ext.refl _ _) r rfl h⟩
  | cons _ _ => exact h.elim
theorem dgsw_cons {es : List Expr} {g : WG} {gs : WGs} (h1 : DGw X vs tg g) (h2 : PGs X es (upGsw (fw X) vs gs)) (hs : (assignEach (tg :: es) X.env).map (·.2) = assign tg X.env :: (assignEach es X.env).map (·.2) := by rfl) : PGs X (tg :: es) (upGsw (fw X) vs (wgCons g gs)) :=
  pgs_le (pgs_cons h1 h2 hs) fun us σ H Q ⟨Z, ρ, w, ds, Q', r, n, h, k⟩ => by
    cases n with
    | nil => exact h.elim
    | cons n1 n2 =>
      refine ⟨_, _, rfl, Z, ρ, w, _, _, r, n1, h, fun σ1 H1 ρ1 w1 e1 r1 q1 h1 => ?_⟩
      exact ⟨Z, ρ1, w1, _, _, r1, n2.ext e1, h1, fun σ2 H2 ρ2 w2 e2 r2 q2 h2 => k _ _ _ _ (e1.trans e2) r2 (q2.trans q1) h2⟩
theorem dgw_tup {es : List Expr} {k : Nat} {gs : WGs} {n : Nat} (hc : X.calm = true) (h : PGs X es (upGsw (fw X) vs gs))
    (hn : (assignEach es X.env).length = n := by rfl) (hst : (assignEach es X.env).findIdx? (·.1) = none := by rfl) : DGw X vs (.Tuple es k pos) (wgTup n gs) :=
  pg_le (pg_tup hc h hn hst) fun v σ H Q ⟨Z, ρ, w, d, Q', r, n1, h, k⟩ => by
    cases n1 with
    | tup hp hn => exact ⟨_, _, rfl, hp.sq, by rw [hn.length]; exact h.1, Z, ρ, w, _, _, r, hn, h.2, k⟩
    | _ => exact h.elim
def wYes : WT := fun _ w Q => Q true w
abbrev DTs (X : Cx) (ifs : List Expr) (t : WT) : Prop := PTs X ifs (upT (fw X) t)
theorem dts_nil : DTs X [] wYes := ⟨fun pins s σ H Q I ⟨Z, ρ, w, Q', r, h, k⟩ => (pts_nil (X := X)).run pins s σ H Q I (k _ _ ⟨w, Ext.refl _ _, r.wk, h⟩)⟩
theorem dts_one {c : Expr} {t : WT} (h : DT X c t) : DTs X [c] t := pts_one h
def compD (g : WG) (tt : WT) (te : WE) (ρ : Sl) (k : List PV → Wd → Prop) : List PV → List PV → Wd → Prop
  | [], acc, w => k acc w
  | d :: r, acc, w => g d ρ w fun ρ1 w1 => tt ρ1 w1 fun b w2 => if b = true then te ρ1 w2 fun y w3 => compD g tt te ρ k r (acc ++ [y]) w3 else compD g tt te ρ k r acc w2
def wLc (wi : WI) (g : WG) (tt : WT) (te : WE) (vs : List Nat) : WE := fun ρ w Q => wi ρ w fun ds w1 => ds.length < sizeLine ∧ compD g tt te (wipeD ρ vs) (fun acc w2 => Q (.lst acc) w2) ds [] w1
theorem Wk.less {K : Kz} {w : Wd} {H : Hp} {Z' : Addr → Prop} (k : Wk K w H) (z : ∀ b, Z' b → K.Z b) : Wk ⟨K.K, Z'⟩ w H :=
  ⟨fun a m h => by
    cases k.at_ a m h with
    | lst h1 h2 => exact .lst h1 (h2.less z)
    | dct h1 h2 => exact .dct h1 (Paired.mapP h2 fun _ _ q => ⟨q.1, q.2.less z⟩)
    | lcl h1 h2 => exact .lcl h1 (h2.less z)
    | dcl h1 h2 => exact .dcl h1 (Paired.mapP h2 fun _ _ q => ⟨q.1, q.2.less z⟩)
    | dcp h1 h2 => exact .dcp h1 (Paired.mapP h2 fun _ _ q => ⟨q.1, q.2.1.less z, q.2.2.1, by obtain ⟨v, q1, q2⟩ := q.2.2.2; exact ⟨v, q1, q2.less z⟩⟩)
    | ins h1 h2 => exact .ins h1 (Paired.mapP h2 fun _ _ q => ⟨q.1, q.2.less z⟩)
    | tab h1 h2 => exact .tab h1 ⟨h2.tr, fun pos cv hc => by
        obtain ⟨c, e1, e2, e3, e4⟩ := h2.at_ pos cv hc
        exact ⟨c, e1, e2, e3, fun q => e4 (z c q)⟩⟩, fun b q => k.zin b (z b q)⟩
/-- D is hidden from here on -/
abbrev zAdd (Z : Addr → Prop) (D : Addr) : Addr → Prop := fun b => Z b ∨ b = D
mutual
theorem Dn.upd {K : Kz} {w : Wd} {H : Hp} {D : Addr} {o : HO} (hz : K.Z D) : ∀ {v : V} {d : PV}, Dn K w H v d → Dn K w (L2.upd H D o) v d
  | _, _, .non => .non
  | _, _, .bl b => .bl b
  | _, _, .int i => .int i
  | _, _, .str x => .str x
  | _, _, .ref a => .ref a
  | _, _, .ty n => .ty n
  | _, _, .tup h r => .tup (by
      rcases h with ⟨h1, h2, h3⟩ | h
      · exact .inl ⟨h1, h2, by unfold Rd; rw [upd_ne (fun e => h2 (by rw [e]; exact hz))]; exact h3⟩
      · exact .inr h) (DnAll.upd hz r)
  | _, _, .tpl h r => .tpl (by
      obtain ⟨h1, h2, o, h3, h4⟩ := h
      exact ⟨h1, h2, o, by rw [upd_ne (fun e => h2 (by rw [e]; exact hz))]; exact h3, h4⟩) (DnAll.upd hz r)
  | _, _, .lst h r => .lst ⟨h.1, h.2.1, by rw [upd_ne (fun e => h.2.1 (by rw [e]; exact hz))]; exact h.2.2⟩ (DnAll.upd hz r)
  | _, _, .scr h r => .scr (by
      rcases h with ⟨h1, h2, h3⟩ | h
      · refine .inl ⟨h1, h2, ?_⟩
        unfold Rd
        rw [upd_ne (fun e => h2 (by rw [e]; exact hz))]
        exact h3
      · exact .inr h) (DnAll.upd hz r)
theorem DnAll.upd {K : Kz} {w : Wd} {H : Hp} {D : Addr} {o : HO} (hz : K.Z D) : ∀ {vs : List V} {ds : List PV}, DnAll K w H vs ds → DnAll K w (L2.upd H D o) vs ds
  | _, _, .nil => .nil
  | _, _, .cons h r => .cons (h.upd hz) (DnAll.upd hz r)
end
theorem Wk.upd {K : Kz} {w : Wd} {H : Hp} {D : Addr} {o : HO} (k : Wk K w H) (hz : K.Z D) : Wk K w (L2.upd H D o) := by
  have hw := (k.zin D hz).1
  refine ⟨fun a m h => ?_, fun b q => ?_⟩
  · have na : a ≠ D := fun e => by rw [e, hw] at h; cases h
    have hh : L2.upd H D o a = H a := upd_ne na
    cases k.at_ a m h with
    | lst h1 h2 => exact .lst (hh.trans h1) (h2.upd hz)
    | dct h1 h2 => exact .dct (hh.trans h1) (Paired.mapP h2 fun _ _ q => ⟨q.1, q.2.upd hz⟩)
    | lcl h1 h2 => exact .lcl (hh.trans h1) (h2.upd hz)
    | dcl h1 h2 => exact .dcl (hh.trans h1) (Paired.mapP h2 fun _ _ q => ⟨q.1, q.2.upd hz⟩)
    | dcp h1 h2 => exact .dcp (hh.trans h1) (Paired.mapP h2 fun _ _ q => ⟨q.1, q.2.1.upd hz, q.2.2.1, by obtain ⟨v, q1, q2⟩ := q.2.2.2; exact ⟨v, q1, q2.upd hz⟩⟩)
    | ins h1 h2 => exact .ins (hh.trans h1) (Paired.mapP h2 fun _ _ q => ⟨q.1, q.2.upd hz⟩)
    | tab h1 h2 => exact .tab (hh.trans h1) ⟨h2.tr, fun pos cv hc => by
        obtain ⟨c, e1, e2, e3, e4⟩ := h2.at_ pos cv hc
        exact ⟨c, e1, by rw [upd_ne (fun q => e4 (by rw [q]; exact hz))]; exact e2, e3, e4⟩⟩
  · obtain ⟨h1, u, h2⟩ := k.zin b q
    by_cases e : b = D
    · subst e; exact ⟨h1, o, upd_same⟩
    · exact ⟨h1, u, by rw [upd_ne e]; exact h2⟩
/-- a new object is laid and hidden -/
theorem Wk.hid {K : Fw} {Z : Addr → Prop} {w : Wd} {H : Hp} {D : Addr} {o : HO} (k : Wk ⟨K, Z⟩ w H) (hD : H D = none) : Wk ⟨K, zAdd Z D⟩ w (L2.upd H D o) := by
  have k' := k.new (o := o) hD
  have e := Ext.new (o := o) k hD
  have z : Zx ⟨K, Z⟩ H (zAdd Z D) := fun b q => q.elim .inl fun e => .inr (by rw [e]; exact hD)
  refine ⟨fun a m h => ?_, fun b q => ?_⟩
  · have na : a ≠ D := fun e => by rw [e, k.off hD] at h; cases h
    have hh : L2.upd H D o a = H a := upd_ne na
    cases k.at_ a m h with
    | lst h1 h2 => exact .lst (hh.trans h1) ((h2.hide z).ext e)
    | dct h1 h2 => exact .dct (hh.trans h1) (Paired.mapP h2 fun _ _ q => ⟨q.1, (q.2.hide z).ext e⟩)
    | lcl h1 h2 => exact .lcl (hh.trans h1) ((h2.hide z).ext e)
    | dcl h1 h2 => exact .dcl (hh.trans h1) (Paired.mapP h2 fun _ _ q => ⟨q.1, (q.2.hide z).ext e⟩)
    | dcp h1 h2 => exact .dcp (hh.trans h1) (Paired.mapP h2 fun _ _ q => ⟨q.1, (q.2.1.hide z).ext e, q.2.2.1, by obtain ⟨v, q1, q2⟩ := q.2.2.2; exact ⟨v, q1, (q2.hide z).ext e⟩⟩)
    | ins h1 h2 => exact .ins (hh.trans h1) (Paired.mapP h2 fun _ _ q => ⟨q.1, (q.2.hide z).ext e⟩)
    | tab h1 h2 => exact .tab (hh.trans h1) ⟨h2.tr, fun pos cv hc => by
        obtain ⟨c, e1, e2, e3, e4⟩ := h2.at_ pos cv hc
        exact ⟨c, e1, (e c _ e3 e2).2, e3, fun q => q.elim e4 fun q => by rw [q, hD] at e2; cases e2⟩⟩
  · rcases q with q | q
    · obtain ⟨h1, u, h2⟩ := k.zin b q
      exact ⟨h1, u, (e b u h1 h2).2⟩
    · subst q
      exact ⟨k.off hD, o, upd_same⟩
theorem lc_up {K : Fw} {wi : WI} {g : WG} {tt : WT} {te : WE} {vs : List Nat} {σ : St} {H : Hp} {Q : VK} (h : upE K (wLc wi g tt te vs) σ H Q) : tLc (upI K wi) (upGw K vs g) (upT K tt) (upE K te) vs σ H Q := by
  obtain ⟨Z, ρ, w, Q', r, h, k⟩ := h
  refine ⟨Z, ρ, w, _, r, h, fun J H1 ds w1 e1 k1 itd h1 => ?_⟩
  obtain ⟨hsz, h1⟩ := h1
  intro D hD
  have zx : Zx ⟨K, Z⟩ H1 (zAdd Z D) := fun b q => q.elim .inl fun e => .inr (by rw [e]; exact hD)
  have zD : (⟨K, zAdd Z D⟩ : Kz).Z D := .inr rfl
  have rp1 : Rep ⟨K, Z⟩ ρ w1 σ H1 := r.ext e1 k1
  have hDw : w1 D = none := k1.off hD
  refine ⟨fun i m H' => m = ds.length - i ∧ i ≤ ds.length ∧ ∃ acc accV w', Ext w1 H1 w' H' ∧ Wk ⟨K, zAdd Z D⟩ w' H' ∧ H' D = some (.lst accV) ∧ DnAll ⟨K, zAdd Z D⟩ w' H' accV acc ∧ acc.length ≤ i ∧ compD g tt te (wipeD ρ vs) (fun acc w2 => Q' (.lst acc) w2) (ds.drop i) acc w',
    ⟨_, rfl, Nat.zero_le _, [], [], w1, Ext.new k1 hD, k1.hid hD, upd_same, .nil, Nat.le_refl _, h1⟩, ?_⟩
  rintro i m H' ⟨rfl, hi, acc, accV, w', e', k', hH, hn, hl, hc⟩
  by_cases hlt : i < ds.length
  · refine .inr ⟨itd.go i w' H' e' hlt, fun H2 => ∃ acc accV w2, Ext w1 H1 w2 H2 ∧ Wk ⟨K, zAdd Z D⟩ w2 H2 ∧ H2 D = some (.lst accV) ∧ DnAll ⟨K, zAdd Z D⟩ w2 H2 accV acc ∧ acc.length ≤ i + 1 ∧ compD g tt te (wipeD ρ vs) (fun acc w2 => Q' (.lst acc) w2) (ds.drop (i + 1)) acc w2, ?_, ?_⟩
    · rintro H2 ⟨acc2, accV2, w2, z⟩
      exact ⟨ds.length - (i + 1), by omega, rfl, hlt, acc2, accV2, w2, z⟩
    · intro x H'' hy
      obtain ⟨d, hd, e3, k3, n3⟩ := itd.yld i w' H' x H'' (zAdd Z D) e' zx k' hlt hy
      have hdrop : ds.drop i = d :: ds.drop (i + 1) := by
        rw [List.drop_eq_getElem_cons hlt]
        rw [List.getElem?_eq_getElem hlt] at hd
        rw [Option.some.inj hd]
      rw [hdrop, compD] at hc
      have e13 := e'.trans e3
      have rp3 : Rep ⟨K, zAdd Z D⟩ (wipeD ρ vs) w' (L2.wipe σ vs) H'' :=
        ⟨by rw [wipeD_length, wipe_length]; exact r.len, fun j d' hj => by
          obtain ⟨q1, q2⟩ := wipeD_some hj
          obtain ⟨v, q3, q4⟩ := rp1.sl j d' q1
          exact ⟨v, by rw [wipe_out q2]; exact q3, (q4.hide zx).ext e13⟩, k3⟩
      refine ⟨zAdd Z D, wipeD ρ vs, w', d, _, rp3, n3, hc, fun σ4 H4 ρ4 w4 e4 r4 q4 h4 => ⟨q4.trans wipe_wipe, ?_⟩⟩
      refine upT1 r4 h4 fun b H5 w5 e5 r5 h5 => ?_
      have hDD : w' D = none := (k'.zin D zD).1
      cases b with
      | false =>
        refine iteF ⟨acc, accV, w5, e13.trans (e4.trans e5), r5.wk, ?_, hn.ext (e3.trans (e4.trans e5)), by omega, by simpa using h5⟩
        exact ((e3.trans (e4.trans e5)) D _ hDD hH).2
      | true =>
        refine iteT (up1 r5 (by simpa using h5) fun y H6 dy w6 e6 r6 n6 h6 => ?_)
        have e36 := e3.trans (e4.trans (e5.trans e6))
        refine ⟨accV, (e36 D _ hDD hH).2, by rw [hn.length]; omega, ?_⟩
        refine ⟨acc ++ [dy], accV ++ [y], w6, ?_, r6.wk.upd zD, upd_same, (hn.ext e36).append (.cons n6 .nil) |>.upd zD, by simp; omega, h6⟩
        have e16 := e'.trans e36
        exact Ext.updN k1 e16 hD
  · have hz : i = ds.length := by omega
    subst hz
    rw [List.drop_length, compD] at hc
    refine .inl ⟨itd.stop w' H' e', k _ _ ⟨.lst acc, w', e1.trans e', k'.less (Z' := Z) (fun b q => Or.inl q), .lst ⟨(k'.zin D zD).1, k1.nz hD, hH⟩ (hn.less (Z' := Z) fun b q => Or.inl q), hc⟩⟩
theorem de_lc {ifs : List Expr} {scope : Scope} {own : List (Str × Nat)} {wi : WI} {g : WG} {tt : WT} (hc : X.calm = true) (hN : X.N.Nodup) (hi : DI X tg it wi) (ok : BlkOk X.N X.env.scope scope own)
    (hg : ∀ (s : Shared) (H : Hp) (C : Addr) (cl : List (Str × Addr)) (fp : List Addr), DGw (X.blk s H scope (compEnvC scope cl C X.env) fp) (own.map (·.2)) tg g) (ht : ∀ (s : Shared) (H : Hp) (C : Addr) (cl : List (Str × Addr)) (fp : List Addr), DTs (X.blk s H scope (compEnvC scope cl C X.env) fp) ifs tt)
    (he : ∀ (s : Shared) (H : Hp) (C : Addr) (cl : List (Str × Addr)) (fp : List Addr), DE (X.blk s H scope (compEnvC scope cl C X.env) fp) elt te) (hs : ∀ x, foldedSetIterable it X.env x = pure x := by intro _; rfl) :
    DE X (.ListComp elt [⟨tg, it, ifs, 0⟩] scope pos) (wLc wi g tt te (own.map (·.2))) :=
  pe_le (pe_lc hc hN hi ok hg ht he hs) fun _ _ _ h => lc_up h
/-- y = [..] -/
theorem ds_setLc {i : Nat} {y : Str} {py spos : Pos} {ifs : List Expr} {scope : Scope} {own : List (Str × Nat)} {wi : WI} {g : WG} {tt : WT} (hc : X.calm = true) (hN : X.N.Nodup) (hy : X.N[i]? = some y) (hyl : X.env.scope.names.lookup y = some .local)
    (hsw : swapsWith (.ListComp elt [⟨tg, it, ifs, 0⟩] scope pos) (some (.Name y py)) spos.line X.env = pure true) (hi : DI X tg it wi) (ok : BlkOk X.N X.env.scope scope own)
    (hg : ∀ (s : Shared) (H : Hp) (C : Addr) (cl : List (Str × Addr)) (fp : List Addr), DGw (X.blk s H scope (compEnvC scope cl C X.env) fp) (own.map (·.2)) tg g) (ht : ∀ (s : Shared) (H : Hp) (C : Addr) (cl : List (Str × Addr)) (fp : List Addr), DTs (X.blk s H scope (compEnvC scope cl C X.env) fp) ifs tt)
    (he : ∀ (s : Shared) (H : Hp) (C : Addr) (cl : List (Str × Addr)) (fp : List Addr), DE (X.blk s H scope (compEnvC scope cl C X.env) fp) elt te) (hs : ∀ x, foldedSetIterable it X.env x = pure x := by intro _; rfl) :
    DS X (.Assign [.Name y py] (.ListComp elt [⟨tg, it, ifs, 0⟩] scope pos) spos) (wAsg (wLc wi g tt te (own.map (·.2))) (wName i)) :=
  ps_le (ps_setLc hc hN hy hyl hsw hi ok hg ht he hs) fun D σ H ⟨Z, ρ, w, E, r, h, k⟩ => lc_up ⟨Z, ρ, w, _, r, h, fun v H1 ⟨d, w1, e1, k1, n, h1⟩ => k.nx _ _ _ _ e1 ((r.ext e1 k1).set n i) h1⟩
end
end Pd

/-! methods -/
namespace Pd
open PySem L2

def strsOf : List PV → Option (List Str)
  | [] => some []
  | .str b :: r => (strsOf r).map (b :: ·)
  | _ => none
theorem strsOf_dn {K : Kz} {w : Wd} {H : Hp} : ∀ {es : List PV} {bs : List Str} {xs : List V}, strsOf es = some bs → DnAll K w H xs es → xs = bs.map V.str
  | [], _, _, h, n => by cases h; cases n; rfl
  | .str b :: r, bs, _, h, n => by
    cases n with
    | cons h1 h2 =>
      cases h1
      cases e : strsOf r with
      | none => simp [strsOf, e] at h
      | some cs =>
        have h' : b :: cs = bs := by simpa [strsOf, e] using h
        subst h'
        rw [strsOf_dn e h2]; rfl
  | .non :: _, _, _, h, _ => by simp [strsOf] at h
  | .int _ :: _, _, _, h, _ => by simp [strsOf] at h
  | .bl _ :: _, _, _, h, _ => by simp [strsOf] at h
  | .tup _ :: _, _, _, h, _ => by simp [strsOf] at h
  | .lst _ :: _, _, _, h, _ => by simp [strsOf] at h
  | .scr _ :: _, _, _, h, _ => by simp [strsOf] at h
  | .ref _ :: _, _, _, h, _ => by simp [strsOf] at h
  | .ty _ :: _, _, _, h, _ => by simp [strsOf] at h
def onS (x : PV) (k : Str → Prop) : Prop := match x with
  | .str a => k a
  | _ => False
def rJoin (a : Str) (y : PV) (w2 : Wd) (Q : WQ) : Prop := ∃ es ys, seqOf w2 y = some es ∧ strsOf es = some ys ∧ (ys.map (·.length)).sum + ys.length * a.length ≤ 16777216 ∧ Q (.str (Txt.join a ys)) w2
def wJoin (to te : WE) : WE := fun ρ w Q => to ρ w fun x w1 => onS x fun a => te ρ w1 fun y w2 => rJoin a y w2 Q
section
variable {X : Cx} {o e : Expr} {to te : WE} {pos apos : Pos}
theorem de_join (ho : DE X o to) (he : DE X e te) (hs : starEach [e] X.env = [(false, eval e X.env)] := by rfl) (hbase : attributeBase o "join" X.env (eval o X.env) = eval o X.env := by rfl) (hline : (apos.endLine == pos.line) = true := by rfl) :
    DE X (.Call (.Attribute o "join" apos) [e] [] pos) (wJoin to te) := by
  refine pe_le (pe_join (X := X) (apos := apos) (pos := pos) ho he hs hbase hline) fun σ H Q ⟨Z, ρ, w, Q', r, h, k⟩ => ?_
  refine up1 r h fun x H1 d w1 e1 r1 n1 h1 => ?_
  cases n1 with
  | str a =>
    refine ⟨⟨a, rfl⟩, up1 r1 h1 fun y H2 dy w2 e2 r2 n2 h2 => ?_⟩
    obtain ⟨es, ys, hq, hs, hz, q⟩ := h2
    obtain ⟨p, xs, rfl, hh, hn⟩ := seqOf_sq r2.wk n2 hq
    have ee := strsOf_dn hs hn
    subst ee
    exact ⟨a, p, ys, rfl, rfl, hh.imp id fun z => z.sq, hz, k _ _ (post_trans (e1.trans e2) (post_same r2.wk (.str _) q))⟩
  | _ => exact h1.elim
/-- a method of a built-in class, as a rule of data -/
structure MeD (X : Cx) (name : Str) (tyD : PV → Wd → Prop) (rD : PV → List PV → Wd → WQ → Prop) : Prop where
  ex : ∃ (T id : String) (r : V → List V → Hp → VK → Prop), PlainAttrs T ∧ Slot T name id ∧ typeOf (.builtin id) = pure (.type "method_descriptor") ∧ MtR X id r ∧
    (∀ (Z : Addr → Prop) w H x d, Wk ⟨fw X, Z⟩ w H → Dn ⟨fw X, Z⟩ w H x d → tyD d w → tyV X.K T x H) ∧
    ∀ (Z : Addr → Prop) x xs H d ds w Q' (Q : VK), Wk ⟨fw X, Z⟩ w H → Dn ⟨fw X, Z⟩ w H x d → DnAll ⟨fw X, Z⟩ w H xs ds → rD d ds w Q' → (∀ v H', Post ⟨fw X, Z⟩ w H Q' v H' → Q v H') → r x xs H Q
def wBM (tyD : PV → Wd → Prop) (rD : PV → List PV → Wd → WQ → Prop) (to : WE) (t : WA) : WE := fun ρ w Q => to ρ w fun x w1 => tyD x w1 ∧ t ρ w1 fun ds w2 => rD x ds w2 Q
variable {es : List Expr} {t : WA} {name : Str} {tyD : PV → Wd → Prop} {rD : PV → List PV → Wd → WQ → Prop}
theorem de_m (h : MeD X name tyD rD) (ho : DE X o to) (ha : DA X (e :: es) t) (hbase : attributeBase o name X.env (eval o X.env) = eval o X.env := by rfl)
    (hfew : ((backTo pos (starEach (e :: es) X.env)).all (fun x => !x.1) && (backToKw pos (keywordEach [] X.env)).all (fun x => x.1.isSome) && decide ((e :: es).length + ([] : List Keyword).length + (if ([] : List Keyword).isEmpty then 0 else 1) < 30)) = true := by rfl)
    (hline : (apos.endLine == pos.line) = true := by rfl) (hs : starEach (e :: es) X.env = (false, eval e X.env) :: starEach es X.env := by rfl) (hplain : (backTo pos (starEach es X.env)).any (·.1) = false := by rfl) :
    DE X (.Call (.Attribute o name apos) (e :: es) [] pos) (wBM tyD rD to t) := by
  obtain ⟨T, id, r, h1, h2, h3, h4, h5, h6⟩ := h.ex
  refine pe_le (pe_bm h1 h2 h3 h4 ho ha hbase hfew hline hs hplain) fun σ H Q ⟨Z, ρ, w, Q', r, h, k⟩ => ?_
  refine up1 r h fun x H1 d w1 e1 r1 n1 q1 => ?_
  refine ⟨h5 Z w1 H1 x d r1.wk n1 q1.1, upA1 r1 q1.2 fun xs H2 ds w2 e2 r2 n2 q2 => ?_⟩
  exact h6 Z x xs H2 d ds w2 Q' Q r2.wk (n1.ext e2) n2 q2 fun v H' p => k v H' (post_trans (e1.trans e2) p)
theorem de_m0 (h : MeD X name tyD rD) (ho : DE X o to) (hbase : attributeBase o name X.env (eval o X.env) = eval o X.env := by rfl) (hline : (apos.endLine == pos.line) = true := by rfl) :
    DE X (.Call (.Attribute o name apos) [] [] pos) (wBM tyD rD to wNil) := by
  obtain ⟨T, id, r, h1, h2, h3, h4, h5, h6⟩ := h.ex
  refine pe_le (pe_bm0 h1 h2 h3 h4 ho hbase hline) fun σ H Q ⟨Z, ρ, w, Q', r, h, k⟩ => ?_
  refine up1 r h fun x H1 d w1 e1 r1 n1 q1 => ?_
  exact ⟨h5 Z w1 H1 x d r1.wk n1 q1.1, h6 Z x [] H1 d [] w1 Q' Q r1.wk n1 .nil q1.2 fun v H' p => k v H' (post_trans e1 p)⟩
/-- a list that may change -/
def isM (d : PV) (w : Wd) : Prop := match d with
  | .ref a => match w a with
    | some (.lst _) => True
    | _ => False
  | _ => False
theorem isM_ty {K : Fw} {Z : Addr → Prop} {w : Wd} {H : Hp} {x : V} {d : PV} (k : Wk ⟨K, Z⟩ w H) (n : Dn ⟨K, Z⟩ w H x d) (h : isM d w) : ∃ a ds xs, d = .ref a ∧ x = .ref a ∧ w a = some (.lst ds) ∧ H a = some (.lst xs) ∧ DnAll ⟨K, Z⟩ w H xs ds := by
  unfold isM at h
  split at h
  · split at h
    · rename_i e
      cases n
      cases k.at_ _ _ e with
      | lst h1 h2 => exact ⟨_, _, _, rfl, rfl, e, h1, h2⟩
    · exact h.elim
  · exact h.elim
/-- what may change is changed -/
theorem post_put {K : Kz} {w : Wd} {H : Hp} {Q : WQ} {a : Addr} {m : MO} {ds : List PV} {xs : List V} {v : V} {d : PV} (k : Wk K w H) (h : w a = some m) (n : DnAll K w H xs ds) (nv : Dn K w H v d) (q : Q d (wset w a (.lst ds))) (hm : m.isL = false := by rfl) : Post K w H Q v (upd H a (.lst xs)) :=
  ⟨d, _, Ext.put h hm, k.put h (.lst upd_same (n.ext (Ext.put h hm))) hm, nv.ext (Ext.put h hm), q⟩
def mAppend : PV → List PV → Wd → WQ → Prop := fun d es w Q => match d, es with
  | .ref a, [y] => match w a with
    | some (.lst ds) => ds.length < sizeLine ∧ Q .non (wset w a (.lst (ds ++ [y])))
    | _ => False
  | _, _ => False
theorem me_append : MeD X "append" isM mAppend := by
  refine ⟨"list", "list.append", _, PySem.F.plainAttrs_list, PySem.F.slot_list_append, PySem.F.type_list_append, mt_append, fun Z w H x d k n h => ?_, fun Z x xs H d ds w Q' Q k n na h kq => ?_⟩
  · obtain ⟨a, ds, xs, rfl, rfl, h1, h2, h3⟩ := isM_ty k n h
    exact .inl ⟨rfl, _, SqL.of h2⟩
  · unfold mAppend at h
    split at h
    · split at h
      · rename_i e
        obtain ⟨v, rfl, nv⟩ := dall1 na
        cases n
        cases k.at_ _ _ e with
        | lst h1 h2 => exact ⟨_, _, v, rfl, rfl, h1, by rw [h2.length]; exact h.1, kq _ _ (post_put k e (h2.append (.cons nv .nil)) .non h.2)⟩
      · exact h.elim
    · exact h.elim
def mExtend : PV → List PV → Wd → WQ → Prop := fun d es w Q => match d, es with
  | .ref a, [y] => match w a, vw w y with
    | some (.lst ds), .lst zs => ds.length + zs.length ≤ sizeLine ∧ Q .non (wset w a (.lst (ds ++ zs)))
    | _, _ => False
  | _, _ => False
theorem me_extend : MeD X "extend" isM mExtend := by
  refine ⟨"list", "list.extend", _, PySem.F.plainAttrs_list, PySem.F.slot_list_extend, PySem.F.type_list_extend, mt_extend, fun Z w H x d k n h => ?_, fun Z x xs H d ds w Q' Q k n na h kq => ?_⟩
  · obtain ⟨a, ds, xs, rfl, rfl, h1, h2, h3⟩ := isM_ty k n h
    exact .inl ⟨rfl, _, SqL.of h2⟩
  · unfold mExtend at h
    split at h
    · split at h
      · rename_i e e2
        obtain ⟨v, rfl, nv⟩ := dall1 na
        cases n
        obtain ⟨b, ys, rfl, hb, hn⟩ := vwL k nv e2
        cases k.at_ _ _ e with
        | lst h1 h2 => exact ⟨_, _, _, _, rfl, rfl, h1, hb, by rw [h2.length, hn.length]; exact h.1, kq _ _ (post_put k e (h2.append hn) .non h.2)⟩
      · exact h.elim
    · exact h.elim
end
end Pd

/-! defs of the text, the law's end -/
namespace Pd
open PySem L2

/-- the module's own constants -/
def GT (K : Frag) (mg : Str → Option Value) (x : Str) (ds : List PV) : Prop := ∃ a xs, mg x = some (.ref a) ∧ WrT K a xs ∧ ∀ (P : Program) (W : World) (Z : Addr → Prop) w H, DnAll ⟨⟨P, W, K⟩, Z⟩ w H xs ds
def GI (mg : Str → Option Value) (x : Str) (i : Int) : Prop := ∃ t, mg x = some (.int i t)
def GS (mg : Str → Option Value) (x : Str) (i : Str) : Prop := ∃ t, mg x = some (.str i t)
section
variable {X : Cx} {x : Str} {pos : Pos}
theorem de_gI {i : Int} (hg : Gl X x) (hm : GI X.mg x i) (hd : (x == ("__debug__" : Str)) = false := by decide) : DE X (.Name x pos) (wC (.int i)) := by
  obtain ⟨t, h⟩ := hm
  exact de_gInt hg h hd
theorem de_gS {i : Str} (hg : Gl X x) (hm : GS X.mg x i) (hd : (x == ("__debug__" : Str)) = false := by decide) : DE X (.Name x pos) (wC (.str i)) := by
  obtain ⟨t, h⟩ := hm
  exact de_gStr hg h hd
theorem de_gT {ds : List PV} (hg : Gl X x) (hm : GT X.K X.mg x ds) (hd : (x == ("__debug__" : Str)) = false := by decide) : DE X (.Name x pos) (wC (.tup ds)) := by
  obtain ⟨a, xs, h1, h2, h3⟩ := hm
  exact de_gTup hg h1 h2 (h3 _ _) hd
end
/-- the def of that name stands in the text's written part -/
def Fx (K : Frag) (mg : Str → Option Value) (x : Str) (st : Stmt) (ps : List Str) : Prop := ∃ f fd, Fun K x x st f fd ∧ mg x = some (.ref f) ∧ Binds K fd ps []
section
variable {P : Program} {w : World} {K : Frag} {mg : Str → Option Value} {base : Heap}
theorem fx_mk {h : Heap} {x : Str} {st : Stmt} {ps : List Str} {f : Addr} {oc : Value} {od an : Option Addr} {osl : Array (Option Value)} {kV doc pm cdv ct : Value} (X : K.In h) (G : h.Ns mainGlobals mg)
    (a : PySem.W.nsIn K mainGlobals x = some (some (.ref f))) (l : K.lookup f = some ⟨oc, od, .func (PySem.W.fnOf x x (defArgs st) (defBody st) (defScope st) .none kV doc pm an cdv ct), osl⟩) (c : PySem.W.codeIn K cdv x = true) (k : PySem.W.keepIn K (.ref f) = true)
    (hb : ∀ (kV doc pm : Value) (an : Option Addr) (cdv ct : Value) (us : List Value), us.length = ps.length → bindArgs (PySem.W.fnOf x x (defArgs st) (defBody st) (defScope st) .none kV doc pm an cdv ct) ⟨us, []⟩ = pure (ps.zip us)) : Fx K mg x st ps :=
  ⟨f, _, fun_mk l c k, PySem.W.mg_of X G a, (fun_mk (st := st) l c k).binds hb⟩
theorem fd_of {x : Str} {st : Stmt} {N ps : List Str} {k : Nat} {p : PSp} {t : WS} (F : Fx K mg x st ps) (S : FnScope N ps (defScope st))
    (body : ∀ (f : Addr) (cdv : Value) (A : Around) (outer : List Env) (s : Shared) (H : Hp) (E : XK), Room k (A.deeper (PyProof.Rows.envOfC x (defScope st) s.heap.objs.size f cdv)) →
      DSs (cxOf CX0 P w K mg base N x (defScope st) f cdv A outer s H E).nox (defBody st) t)
    (len : ∀ ds w Q, p ds w Q → ds.length = ps.length) (hp : ∀ ds w' Q, p ds w' Q → t { nx := fun _ w2 => Q .non w2, rt := Q } (begin0 N ds) w') : FD P w K mg base x (k + 1) p := by
  obtain ⟨f, fd, h1, h2, h3⟩ := F
  exact fd_mk h1 h2 h3 S len fun cdv A outer s H E hr => ⟨t, body f cdv A outer s H E hr, hp⟩
/-- the law's own def -/
def pLaw : PSp := fun ds w Q => ∃ ns : List Int, ds = [.scr (ns.map PV.int)] ∧ ns.length ≤ 63 ∧ w = (fun _ => none) ∧ ∀ w', Q (.bl true) w'
theorem dn_ints {K : Kz} {w : Wd} {H : Hp} : ∀ ns : List Int, DnAll K w H (ns.map V.int) (ns.map PV.int)
  | [] => .nil
  | n :: r => .cons (.int n) (dn_ints r)
theorem law_up {H : Hp} {a : Addr} {ns : List Int} (hl : ns.length ≤ 63) (hS : SqL K H a (ns.map V.int)) : upSp ⟨P, w, K⟩ pLaw [.ref a] H (fun v _ => v = .bl true) fun _ _ _ => False := by
  refine ⟨fun _ => False, _, fun _ => none, fun d _ => d = .bl true, ⟨(fun _ _ h => nomatch h), fun _ h => False.elim h⟩, .cons (.scr (xs := ns.map V.int) (ds := ns.map PV.int) ?_ (dn_ints ns)) .nil, ⟨ns, rfl, hl, rfl, fun _ => rfl⟩, ?_⟩
  · rcases hS with h | h
    · exact .inl ⟨rfl, fun z => z, h⟩
    · exact .inr h
  · rintro v H' ⟨d, w', _, _, n, rfl⟩
    cases n
    rfl
theorem law_end {l : PySem.W.OpenLaw} {k : Nat} {q : Program} {loose : List Str} {XP : (Str → Option Value) → Heap → Prop} {YP : World → Heap → Prop} {d : DefRec} {K : Params → Frag} {x : Str} {st : Stmt}
    (hn : l.most = some 63) (hdf : d.params.defaults = []) (hr : Room k callerA) (hd : d.name = "law") (hb : ∀ (kV doc pm : Value) (an : Option Addr) (cdv ct : Value) (s : Shared) (u : Value), BindsTo s (PySem.W.fnOf "law" "law" (defArgs st) (defBody st) (defScope st) .none kV doc pm an cdv ct) ⟨[u], []⟩ [(x, u)])
    (hY : ∀ (w : World) (h : Heap), YP w h → (K w.params).In h)
    (F : ∀ (w : World) (mg : Str → Option Value) (h : Heap), (K w.params).In h → h.Ns mainGlobals mg → (∀ fa : Addr, mg "law" = some (.ref fa) → ∃ fd, Fun (K w.params) "law" "law" st fa fd) ∧
      ∀ base : Heap, (K w.params).In base → base.Ns mainGlobals mg → ∀ fa fd, mg "law" = some (.ref fa) → Fun (K w.params) "law" "law" st fa fd → FnOk l.prog w (K w.params) mg base CX0 k fa fd [x] (upSp ⟨l.prog, w, K w.params⟩ pLaw)) :
    PySem.W.WalkO q loose XP YP l.row.toRowW d [] (fun f vs => PySem.call f vs) := by
  refine L2.walk_of (n := 63) (k := k) (x := x) (CX := fun _ => CX0) (sp := fun w => upSp ⟨l.prog, w, K w.params⟩ pLaw) hn (by decide) hdf hr hY (fun w mg fa h hK hG hm => ?_) (fun w H a ns hl _ hS => law_up hl hS) fun _ _ _ _ _ z => z
  rw [hd] at hm
  obtain ⟨h1, h2⟩ := F w mg h hK hG
  obtain ⟨fd, hf⟩ := h1 fa hm
  refine ⟨fd, ?_, fun base b1 b2 => h2 base b1 b2 fa fd hm hf⟩
  obtain ⟨oc, od, kV, doc, pm, an, cdv, ct, osl, rfl, _, _⟩ := hf.ex
  exact hb kV doc pm an cdv ct
/-- the same of the law's def as FnOk -/
theorem fn_of_law {x : Str} {st : Stmt} {N : List Str} {k : Nat} {p : PSp} {t : WS} {fa : Addr} {fd : FuncData} (F : Fun K "law" "law" st fa fd) (S : FnScope N [x] (defScope st))
    (body : ∀ (f : Addr) (cdv : Value) (A : Around) (outer : List Env) (s : Shared) (H : Hp) (E : XK), Room k (A.deeper (PyProof.Rows.envOfC "law" (defScope st) s.heap.objs.size f cdv)) →
      DSs (cxOf CX0 P w K mg base N "law" (defScope st) f cdv A outer s H E).nox (defBody st) t)
    (len : ∀ ds w Q, p ds w Q → ds.length = 1) (hp : ∀ ds w' Q, p ds w' Q → t { nx := fun _ w2 => Q .non w2, rt := Q } (begin0 N ds) w') : FnOk P w K mg base CX0 (k + 1) fa fd [x] (upSp ⟨P, w, K⟩ p) := by
  refine F.ok S (fun vs H Q E h => ?_) fun cdv A outer s H vs Q E hr h => ?_
  · obtain ⟨Z, ds, w, Q', h1, h2, h3, _⟩ := h
    rw [h2.length]
    exact len _ _ _ h3
  · obtain ⟨Z, ds, w, Q', h1, h2, h3, h4⟩ := h
    refine ⟨_, body fa cdv A outer s H E hr, Z, begin0 N ds, w, _, begin_rep h1 h2, hp ds w Q' h3, ⟨fun σ' H' ρ' w' e r q => ?_, fun v H' q => h4 v H' q, fun _ _ _ _ _ _ q => q.elim, fun _ _ _ _ _ _ q => q.elim⟩⟩
    exact h4 _ _ ⟨.non, w', e, r.wk, .non, q⟩
end
end Pd

/-! isinstance by written classes; loops by induction -/
namespace Pd
open PySem L2

def okTy (w : Wd) : PV → Prop
  | .ref a => match w a with
    | some (.lst _) => True
    | some (.dct _) => True
    | _ => False
  | .ty _ => False
  | _ => True
def isIntP (_ : Wd) : PV → Bool
  | .int _ => true
  | .bl _ => true
  | _ => false
def isBoolP (_ : Wd) : PV → Bool
  | .bl _ => true
  | _ => false
def isStrP (_ : Wd) : PV → Bool
  | .str _ => true
  | _ => false
def isTupP (_ : Wd) : PV → Bool
  | .tup _ => true
  | .tpl _ => true
  | _ => false
def isLstP (w : Wd) : PV → Bool
  | .lst _ => true
  | .scr _ => true
  | .ref a => match w a with
    | some (.lst _) => true
    | _ => false
  | _ => false
def isDctP (w : Wd) : PV → Bool
  | .ref a => match w a with
    | some (.dct _) => true
    | _ => false
  | _ => false
def cI (c : String) (f : Wd → PV → Bool) : RcD := fun ds w Q => match ds with
  | [x, .ty c'] => c' = c ∧ okTy w x ∧ Q (.bl (f w x)) w
  | _ => False
def cI2 (c1 c2 : String) (f1 f2 : Wd → PV → Bool) : RcD := fun ds w Q => match ds with
  | [x, .tup [.ty a, .ty b]] => (a = c1 ∧ b = c2) ∧ okTy w x ∧ Q (.bl (f1 w x || f2 w x)) w
  | _ => False
def TyRule (c : String) (f : Wd → PV → Bool) : Prop := knownC c = true ∧ ∀ w x, okTy w x → ∃ t, tyName w x = some t ∧ subTy t c = f w x
theorem ty_by {c : String} {f : Wd → PV → Bool} (hk : knownC c = true) (h0 : subTy "NoneType" c = f (fun _ => none) .non) (h1 : ∀ w b, subTy "bool" c = f w (.bl b)) (h2 : ∀ w b, subTy "int" c = f w (.int b)) (h3 : ∀ w b, subTy "str" c = f w (.str b))
    (h4 : ∀ w b, subTy "tuple" c = f w (.tup b)) (h5 : ∀ w b, subTy "list" c = f w (.lst b)) (h6 : ∀ w b, subTy "list" c = f w (.scr b)) (h7 : ∀ w a xs, w a = some (.lst xs) → subTy "list" c = f w (.ref a)) (h8 : ∀ w a xs, w a = some (.dct xs) → subTy "dict" c = f w (.ref a))
    (h9 : ∀ w, f w .non = f (fun _ => none) .non) (h10 : ∀ w b, subTy "tuple" c = f w (.tpl b)) : TyRule c f := by
  refine ⟨hk, fun w x h => ?_⟩
  cases x with
  | non => exact ⟨_, rfl, by rw [h9]; exact h0⟩
  | bl b => exact ⟨_, rfl, h1 w b⟩
  | int b => exact ⟨_, rfl, h2 w b⟩
  | str b => exact ⟨_, rfl, h3 w b⟩
  | tup b => exact ⟨_, rfl, h4 w b⟩
  | tpl b => exact ⟨_, rfl, h10 w b⟩
  | lst b => exact ⟨_, rfl, h5 w b⟩
  | scr b => exact ⟨_, rfl, h6 w b⟩
  | ref a =>
    simp only [okTy] at h
    split at h
    · rename_i e; exact ⟨"list", by simp only [tyName, e], h7 w a _ e⟩
    · rename_i e; exact ⟨"dict", by simp only [tyName, e], h8 w a _ e⟩
    · exact h.elim
  | ty n => exact h.elim
theorem tr_int : TyRule "int" isIntP := ty_by (by decide) (by decide) (fun _ _ => by simp [subTy, isIntP]) (fun _ _ => by simp [subTy, isIntP]) (fun _ _ => by simp [subTy, isIntP]) (fun _ _ => by simp [subTy, isIntP]) (fun _ _ => by simp [subTy, isIntP]) (fun _ _ => by simp [subTy, isIntP]) (fun _ _ _ e => by simp [subTy, isIntP, e]) (fun _ _ _ e => by simp [subTy, isIntP, e]) (fun _ => rfl) fun _ _ => by simp [subTy, isIntP]
theorem tr_bool : TyRule "bool" isBoolP := ty_by (by decide) (by decide) (fun _ _ => by simp [subTy, isBoolP]) (fun _ _ => by simp [subTy, isBoolP]) (fun _ _ => by simp [subTy, isBoolP]) (fun _ _ => by simp [subTy, isBoolP]) (fun _ _ => by simp [subTy, isBoolP]) (fun _ _ => by simp [subTy, isBoolP]) (fun _ _ _ e => by simp [subTy, isBoolP, e]) (fun _ _ _ e => by simp [subTy, isBoolP, e]) (fun _ => rfl) fun _ _ => by simp [subTy, isBoolP]
theorem tr_str : TyRule "str" isStrP := ty_by (by decide) (by decide) (fun _ _ => by simp [subTy, isStrP]) (fun _ _ => by simp [subTy, isStrP]) (fun _ _ => by simp [subTy, isStrP]) (fun _ _ => by simp [subTy, isStrP]) (fun _ _ => by simp [subTy, isStrP]) (fun _ _ => by simp [subTy, isStrP]) (fun _ _ _ e => by simp [subTy, isStrP, e]) (fun _ _ _ e => by simp [subTy, isStrP, e]) (fun _ => rfl) fun _ _ => by simp [subTy, isStrP]
theorem tr_tup : TyRule "tuple" isTupP := ty_by (by decide) (by decide) (fun _ _ => by simp [subTy, isTupP]) (fun _ _ => by simp [subTy, isTupP]) (fun _ _ => by simp [subTy, isTupP]) (fun _ _ => by simp [subTy, isTupP]) (fun _ _ => by simp [subTy, isTupP]) (fun _ _ => by simp [subTy, isTupP]) (fun _ _ _ e => by simp [subTy, isTupP, e]) (fun _ _ _ e => by simp [subTy, isTupP, e]) (fun _ => rfl) fun _ _ => by simp [subTy, isTupP]
theorem tr_lst : TyRule "list" isLstP := ty_by (by decide) (by decide) (fun _ _ => by simp [subTy, isLstP]) (fun _ _ => by simp [subTy, isLstP]) (fun _ _ => by simp [subTy, isLstP]) (fun _ _ => by simp [subTy, isLstP]) (fun _ _ => by simp [subTy, isLstP]) (fun _ _ => by simp [subTy, isLstP]) (fun _ _ _ e => by simp [subTy, isLstP, e]) (fun _ _ _ e => by simp [subTy, isLstP, e]) (fun _ => rfl) fun _ _ => by simp [subTy, isLstP]
theorem tr_dct : TyRule "dict" isDctP := ty_by (by decide) (by decide) (fun _ _ => by simp [subTy, isDctP]) (fun _ _ => by simp [subTy, isDctP]) (fun _ _ => by simp [subTy, isDctP]) (fun _ _ => by simp [subTy, isDctP]) (fun _ _ => by simp [subTy, isDctP]) (fun _ _ => by simp [subTy, isDctP]) (fun _ _ _ e => by simp [subTy, isDctP, e]) (fun _ _ _ e => by simp [subTy, isDctP, e]) (fun _ => rfl) fun _ _ => by simp [subTy, isDctP]
theorem ca_le {X : Cx} {f : Value} {r r' : RcD} (h : CaD X f r) (hl : ∀ ds w Q, r' ds w Q → r ds w Q) : CaD X f r' := by
  obtain ⟨r0, h1, h2⟩ := h.ex
  exact ⟨r0, h1, fun Z xs H ds w Q' Q k n q kq => h2 Z xs H ds w Q' Q k n (hl _ _ _ q) kq⟩
theorem ca_i {X : Cx} {c : String} {f : Wd → PV → Bool} (R : TyRule c f) : CaD X (.builtin "isinstance") (cI c f) := ca_le ca_isi fun ds w Q h => by
  unfold cI at h
  split at h
  · obtain ⟨rfl, h1, h2⟩ := h
    obtain ⟨t, e1, e2⟩ := R.2 w _ h1
    exact ⟨t, e1, R.1, by rw [e2]; exact h2⟩
  · exact h.elim
theorem ca_i2 {X : Cx} {c1 c2 : String} {f1 f2 : Wd → PV → Bool} (R1 : TyRule c1 f1) (R2 : TyRule c2 f2) : CaD X (.builtin "isinstance") (cI2 c1 c2 f1 f2) := ca_le ca_isi fun ds w Q h => by
  unfold cI2 at h
  split at h
  · obtain ⟨⟨rfl, rfl⟩, h1, h2⟩ := h
    obtain ⟨t, e1, e2⟩ := R1.2 w _ h1
    obtain ⟨t', e3, e4⟩ := R2.2 w _ h1
    rw [e1] at e3; cases e3
    refine ⟨t, _, e1, rfl, by simp [R1.1, R2.1], ?_⟩
    simp only [List.any_cons, List.any_nil, Bool.or_false, e2, e4]
    exact h2
  · exact h.elim
/-- a loop, by what holds of the items to come -/
theorem for_ind {g : WG} {tb : WS} {E : WEnds} (I : List PV → Sl → Wd → Prop) (h0 : ∀ ρ w, I [] ρ w → E.nx ρ w)
    (hs : ∀ d r ρ w (N : Sl → Wd → Prop), (∀ ρ w, I r ρ w → N ρ w) → I (d :: r) ρ w → g d ρ w fun ρ1 w1 => tb { nx := N, rt := E.rt, bk := E.nx, ct := N } ρ1 w1) : ∀ ds ρ w, I ds ρ w → forD g tb E ds ρ w
  | [], ρ, w, h => h0 ρ w h
  | d :: r, ρ, w, h => hs d r ρ w _ (for_ind I h0 hs r) h
theorem comp_ind {g : WG} {tt : WT} {te : WE} {ρ : Sl} {k : List PV → Wd → Prop} (I : List PV → List PV → Wd → Prop) (h0 : ∀ acc w, I [] acc w → k acc w)
    (hs : ∀ d r acc w (N : List PV → Wd → Prop), (∀ acc w, I r acc w → N acc w) → I (d :: r) acc w → g d ρ w fun ρ1 w1 => tt ρ1 w1 fun b w2 => if b = true then te ρ1 w2 fun y w3 => N (acc ++ [y]) w3 else N acc w2) : ∀ ds acc w, I ds acc w → compD g tt te ρ k ds acc w
  | [], acc, w, h => h0 acc w h
  | d :: r, acc, w, h => hs d r acc w _ (comp_ind I h0 hs r) h
/-- [f(x) for x in xs], nothing changes -/
theorem comp_map {i : Nat} {te : WE} {ρ : Sl} {k : List PV → Wd → Prop} {w : Wd} (f : PV → PV) : ∀ (ds acc : List PV), (∀ d ∈ ds, ∀ Q : WQ, Q (f d) w → te (ρ.set i (some d)) w Q) → k (acc ++ ds.map f) w → compD (wName i) wYes te ρ k ds acc w
  | [], acc, _, h => by simpa [compD] using h
  | d :: r, acc, he, h => by
    simp only [compD, wName, wYes, if_true]
    refine he d (List.mem_cons_self) _ ?_
    exact comp_map f r _ (fun x hx => he x (List.mem_cons_of_mem _ hx)) (by simpa using h)
/-- [f(x) for x in xs if t(x)], nothing changes -/
theorem comp_filter {i : Nat} {tt : WT} {te : WE} {ρ : Sl} {k : List PV → Wd → Prop} {w : Wd} (p : PV → Bool) (f : PV → PV) : ∀ (ds acc : List PV), (∀ d ∈ ds, ∀ Q : Bool → Wd → Prop, Q (p d) w → tt (ρ.set i (some d)) w Q) → (∀ d ∈ ds, p d = true → ∀ Q : WQ, Q (f d) w → te (ρ.set i (some d)) w Q) → k (acc ++ (ds.filter p).map f) w → compD (wName i) tt te ρ k ds acc w
  | [], acc, _, _, h => by simpa [compD] using h
  | d :: r, acc, ht, he, h => by
    simp only [compD, wName]
    refine ht d (List.mem_cons_self) _ ?_
    cases e : p d with
    | true =>
      simp only [if_true]
      refine he d (List.mem_cons_self) e _ ?_
      exact comp_filter p f r _ (fun x hx => ht x (List.mem_cons_of_mem _ hx)) (fun x hx => he x (List.mem_cons_of_mem _ hx)) (by simpa [List.filter_cons, e] using h)
    | false =>
      simp only [Bool.false_eq_true, if_false]
      exact comp_filter p f r _ (fun x hx => ht x (List.mem_cons_of_mem _ hx)) (fun x hx => he x (List.mem_cons_of_mem _ hx)) (by simpa [List.filter_cons, e] using h)
theorem blsOf_map {α : Type} (f : α → Bool) : ∀ xs : List α, blsOf (xs.map fun x => PV.bl (f x)) = some (xs.map f)
  | [] => rfl
  | x :: r => by simp [blsOf, blsOf_map f r]
theorem atI_lt {α : Type} {xs : List α} {i : Int} (h0 : 0 ≤ i) (h1 : i < xs.length) : ∃ v, atI xs i = some v ∧ v ∈ xs := by
  have hl : i.toNat < xs.length := by omega
  have e : i = ((i.toNat : Nat) : Int) := by omega
  refine ⟨xs[i.toNat], ?_, List.getElem_mem hl⟩
  have q := atI_nat (xs := xs) (j := i.toNat) (v := xs[i.toNat]) (by simp [hl])
  rw [← e] at q
  exact q
end Pd

/-! items at written places -/
namespace Pd
open PySem L2

def onAt {α : Type} : List α → Nat → (α → Prop) → Prop
  | d :: _, 0, k => k d
  | _ :: r, n + 1, k => onAt r n k
  | [], _, _ => False
theorem onAt_at {α : Type} : ∀ {xs : List α} {n : Nat} {k : α → Prop}, onAt xs n k → ∃ d, xs[n]? = some d ∧ k d
  | d :: _, 0, _, h => ⟨d, rfl, h⟩
  | _ :: r, n + 1, k, h => by
    obtain ⟨d, h1, h2⟩ := onAt_at (xs := r) (n := n) (k := k) (by simpa [onAt] using h)
    exact ⟨d, by simpa using h1, h2⟩
  | [], _, _, h => by simp [onAt] at h
theorem onAt_of {α : Type} : ∀ {xs : List α} {n : Nat} {k : α → Prop} {d : α}, xs[n]? = some d → k d → onAt xs n k
  | [], _, _, _, h, _ => by simp at h
  | x :: r, 0, k, d, h, q => by
    have e : x = d := by simpa using h
    subst e; exact q
  | x :: r, n + 1, k, d, h, q => onAt_of (xs := r) (by simpa using h) q
def rIxC (n : Nat) (x : PV) (w1 : Wd) (Q : WQ) : Prop := match vw w1 x with
  | .lst ds => onAt ds n fun d => Q d w1
  | .tup ds => onAt ds n fun d => Q d w1
  | .scr ds => onAt ds n fun d => Q d w1
  | .str z => z.length ≤ sizeLine ∧ onAt z.cps.toList n fun c => Q (.str ⟨#[c]⟩) w1
  | _ => False
def wIxC (n : Nat) (ta : WE) : WE := fun ρ w Q => ta ρ w fun x w1 => rIxC n x w1 Q
section
variable {X : Cx} {a o e : Expr} {ta to te : WE} {pos cpos : Pos} {j : Nat}
theorem atI_on {K : Kz} {w : Wd} {H : Hp} {vs : List V} {ds : List PV} {n : Nat} {k : PV → Prop} (dn : DnAll K w H vs ds) (h : onAt ds n k) : ∃ v d, atI vs (n : Int) = some v ∧ Dn K w H v d ∧ k d := by
  obtain ⟨d, h1, h2⟩ := onAt_at h
  obtain ⟨v, h3, h4⟩ := dn.get h1
  exact ⟨v, d, atI_nat h3, h4, h2⟩
theorem de_ixc (n : Nat) {i : Int} (ha : DE X a ta) (hi : i = (n : Int) := by rfl) : DE X (.Subscript a (.Constant (.int i) j cpos) pos) (wIxC n ta) := by
  refine pe_le (pe_ix ix_seq ha (pe_int (X := X)) (fun _ _ => rfl)) fun σ H Q ⟨Z, ρ, w, Q', r, h, k⟩ => up1 r h fun x H1 d w1 e1 r1 n1 h1 => ?_
  show rIx X.K x (.int i) H1 Q
  subst hi
  unfold rIxC at h1
  split at h1
  · rename_i e
    obtain ⟨p, ys, rfl, hh, hn⟩ := vwL r1.wk n1 e
    obtain ⟨v, d, q1, q2, q3⟩ := atI_on hn h1
    exact .inl ⟨p, ys, _, v, rfl, rfl, SqL.of hh, q1, k _ _ (post_trans e1 (post_same r1.wk q2 q3))⟩
  · rename_i e
    obtain ⟨p, ys, rfl, hh, hn⟩ := vwT n1 e
    obtain ⟨v, d, q1, q2, q3⟩ := atI_on hn h1
    exact .inr (.inl ⟨p, ys, _, v, rfl, rfl, hh.sq, q1, k _ _ (post_trans e1 (post_same r1.wk q2 q3))⟩)
  · rename_i e
    obtain ⟨p, ys, rfl, hh, hn⟩ := vwZ n1 e
    obtain ⟨v, d, q1, q2, q3⟩ := atI_on hn h1
    exact .inl ⟨p, ys, _, v, rfl, rfl, hh.sq, q1, k _ _ (post_trans e1 (post_same r1.wk q2 q3))⟩
  · rename_i e
    cases vwS n1 e
    obtain ⟨c, q1, q2⟩ := onAt_at h1.2
    exact .inr (.inr ⟨_, _, c, rfl, rfl, h1.1, atI_nat q1, k _ _ (post_trans e1 (post_same r1.wk (.str _) q2))⟩)
  · exact h1.elim
/-- xs[n] = v at a written place -/
def rSubC (n : Nat) (d o : PV) (w1 : Wd) (Q : Wd → Prop) : Prop := match o with
  | .ref a => match w1 a with
    | some (.lst ds) => n < ds.length ∧ Q (wset w1 a (.lst (ds.set n d)))
    | _ => False
  | _ => False
def wgSubC (n : Nat) (to : WE) : WG := fun d ρ w Q => to ρ w fun o w1 => rSubC n d o w1 fun w2 => Q ρ w2
theorem dg_subc (n : Nat) {i : Int} (ho : DE X o to) (hi : i = (n : Int) := by rfl)
    (ha : ∀ v, assign (.Subscript o (.Constant (.int i) j cpos) pos) X.env v = (do
      let ov ← holding [v] (eval o X.env)
      let iv ← holding [v, ov] (eval (.Constant (.int i) j cpos) X.env)
      standAt pos
      holding [v, ov, iv] (setItem ov iv v)
      release [v, ov, iv] []) := by intro _; rfl) : DG X (.Subscript o (.Constant (.int i) j cpos) pos) (wgSubC n to) :=
  pg_le (pg_sub ho (pe_int (X := X)) set_list ha) fun v σ H Q ⟨Z, ρ, w, d, Q', r, dn, h, k⟩ => up1 r h fun ov H1 od w1 e1 r1 n1 h1 => by
    show rSetL ov (.int i) v H1 fun H3 => Q σ H3
    subst hi
    unfold rSubC at h1
    split at h1
    · split at h1
      · rename_i ds e
        cases n1
        cases r1.wk.at_ _ _ e with
        | @lst xs _ h3 h4 =>
          have ep : Ext w1 H1 (wset w1 _ (.lst (ds.set n d))) (upd H1 _ (.lst (xs.set n v))) := Ext.put e
          have hl := h1.1
          have hj : ixN xs.length ((n : Nat) : Int) = some n := by
            unfold ixN
            rw [h4.length, if_pos (by omega), if_pos (by omega)]
            simp
          refine ⟨_, _, _, n, rfl, rfl, h3, hj, k _ _ _ _ (e1.trans ep) (r1.ext ep ?_) h1.2⟩
          exact r1.wk.put e (.lst upd_same ((DnAll.set (dn.ext e1) n h4).ext ep))
      · exact h1.elim
    · exact h1.elim
end
end Pd

/-! a dict of constants that is asked at once; the module's own tuples -/
namespace Pd
open PySem L2
def aV : PV → V
  | .int i => .int i
  | .str x => .str x
  | .bl b => .bl b
  | _ => .non
def isAtm : PV → Bool
  | .int _ => true
  | .str _ => true
  | .bl _ => true
  | .non => true
  | _ => false
theorem aV_dn {K : Kz} {w : Wd} {H : Hp} : ∀ d : PV, isAtm d = true → Dn K w H (aV d) d
  | .int i, _ => .int i
  | .str x, _ => .str x
  | .bl b, _ => .bl b
  | .non, _ => .non
theorem aV_rel : ∀ d : PV, isAtm d = true → ∀ u, RelV (aV d) u → RelV (aV d) u := fun _ _ _ h => h
def valP (kvs : List (Key × PV)) (k : Key) : Option PV := (kvs.find? fun kv => decide (kv.1 = k)).map (·.2)
def onKey (y : PV) (N : Key → Prop) : Prop := match y with
  | .int i => N (.inl i)
  | .str x => N (.inr x)
  | _ => False
theorem onKey_at {K : Kz} {w : Wd} {H : Hp} {v : V} {y : PV} {N : Key → Prop} (n : Dn K w H v y) (h : onKey y N) : ∃ k, v = kV k ∧ N k := by
  cases n with
  | int i => exact ⟨.inl i, rfl, h⟩
  | str x => exact ⟨.inr x, rfl, h⟩
  | _ => exact h.elim
inductive DisC (X : Cx) : List (Option Expr) → List Expr → List (Key × PV) → Prop
  | nil : DisC X [] [] []
  | cons {k v : Expr} {kk : Key} {d : PV} {ks : List (Option Expr)} {vs : List Expr} {kvs : List (Key × PV)} : PE X k (tC (kV kk)) → PE X v (tC (aV d)) → isAtm d = true → DisC X ks vs kvs → DisC X (some k :: ks) (v :: vs) ((kk, d) :: kvs)
def kvV (kvs : List (Key × PV)) : List (Key × V) := kvs.map fun kv => (kv.1, aV kv.2)
theorem DisC.pps {X : Cx} {pos : Pos} {ks : List (Option Expr)} {vs : List Expr} {kvs : List (Key × PV)} (h : DisC X ks vs kvs) : PPs X pos ks vs (kvs.map fun kv => (tC (kV kv.1), tC (aV kv.2))) := by
  induction h with
  | nil => exact pps_nil
  | cons h1 h2 _ _ ih => exact pps_cons h1 h2 ih
theorem DisC.atm {X : Cx} {ks : List (Option Expr)} {vs : List Expr} {kvs : List (Key × PV)} (h : DisC X ks vs kvs) : ∀ kv ∈ kvs, isAtm kv.2 = true := by
  induction h with
  | nil => intro kv h; cases h
  | cons _ _ h3 _ ih =>
    intro kv h
    rcases List.mem_cons.mp h with e | h
    · subst e; exact h3
    · exact ih kv h
theorem DisC.len {X : Cx} {ks : List (Option Expr)} {vs : List Expr} {kvs : List (Key × PV)} (h : DisC X ks vs kvs) : ks.length = vs.length ∧ ks.length = kvs.length ∧ ks.all (·.isSome) = true := by
  induction h with
  | nil => exact ⟨rfl, rfl, rfl⟩
  | cons _ _ _ _ ih => exact ⟨by simp [ih.1], by simp [ih.2.1], by simpa using ih.2.2⟩
theorem tPairs_c : ∀ (kvs : List (Key × PV)) {σ : St} {H : Hp} {Q : List (V × V) → Hp → Prop}, Q ((kvV kvs).map fun kv => (kV kv.1, kv.2)) H → tPairs (kvs.map fun kv => (tC (kV kv.1), tC (aV kv.2))) σ H Q
  | [], _, _, _, h => h
  | kv :: r, _, _, Q, h => by
    show tPairs _ _ _ _
    exact tPairs_c r h
theorem valV_kvV (kvs : List (Key × PV)) (k : Key) : valV (kvV kvs) k = (valP kvs k).map aV := by
  unfold valV valP kvV
  rw [List.find?_map]
  simp only [Option.map_map]
  rfl
theorem valP_atm {kvs : List (Key × PV)} {k : Key} {d : PV} (h : ∀ kv ∈ kvs, isAtm kv.2 = true) (e : valP kvs k = some d) : isAtm d = true := by
  unfold valP at e
  obtain ⟨p, h1, h2⟩ := Option.map_eq_some_iff.mp e
  subst h2
  exact h p (List.mem_of_find?_eq_some h1)
def rGetC (kvs : List (Key × PV)) (y z : PV) (w : Wd) (Q : WQ) : Prop := onKey y fun k => Q ((valP kvs k).getD z) w
def wGetC (kvs : List (Key × PV)) (te tf : WE) : WE := fun ρ w Q => te ρ w fun y w1 => tf ρ w1 fun z w2 => rGetC kvs y z w2 Q
def rIxD (kvs : List (Key × PV)) (y : PV) (w : Wd) (Q : WQ) : Prop := onKey y fun k => ∃ d, valP kvs k = some d ∧ Q d w
def wIxD (kvs : List (Key × PV)) (te : WE) : WE := fun ρ w Q => te ρ w fun y w1 => rIxD kvs y w1 Q
section
variable {X : Cx} {e f : Expr} {te tf : WE} {pos apos cpos : Pos} {keys : List (Option Expr)} {values : List Expr} {kvs : List (Key × PV)}
theorem de_getC (hu : X.A.units + 64 < cLine) (hd : DisC X keys values kvs) (he : DE X e te) (hf : DE X f tf) (h0 : keys ≠ [] := by exact fun z => nomatch z) (h15 : keys.length ≤ 15 := by decide) (hm : mergeK [] (kvV kvs) = kvV kvs := by rfl)
    (hbase : attributeBase (.Dict keys values pos) "get" X.env (eval (.Dict keys values pos) X.env) = eval (.Dict keys values pos) X.env := by rfl)
    (hfew : ((backTo cpos (starEach [e, f] X.env)).all (fun x => !x.1) && (backToKw cpos (keywordEach [] X.env)).all (fun x => x.1.isSome) && decide (([e, f] : List Expr).length + ([] : List Keyword).length + (if ([] : List Keyword).isEmpty then 0 else 1) < 30)) = true := by rfl)
    (hline : (apos.endLine == cpos.line) = true := by rfl) (htr : backTo cpos (starEach [e, f] X.env) = [(false, eval e X.env), (false, eval f X.env)] := by rfl) :
    DE X (.Call (.Attribute (.Dict keys values pos) "get" apos) [e, f] [] cpos) (wGetC kvs te tf) := by
  refine pe_le (pe_dget2 (by omega) (pe_disp hd.pps hd.len.2.2 hd.len.1 h0 h15) he hf ⟨hbase, hfew, hline, htr⟩) fun σ H Q ⟨Z, ρ, w, Q', r, h, k⟩ => ?_
  intro p hp
  refine tPairs_c kvs ⟨upd_same, kvV kvs, rfl, by rw [show (kvV kvs).length = kvs.length from List.length_map _, ← hd.len.2.1]; exact h15, ?_⟩
  rw [upd_upd, hm]
  refine ⟨p, rfl, .inl ⟨_, .inl upd_same⟩, ?_⟩
  have r0 := r.ext (Ext.new r.wk hp) (r.wk.new (o := .dK (kvV kvs)) hp)
  refine up1 r0 h fun y H2 dy w1 e1 r1 n1 h1 => up1 r1 h1 fun z H3 dz w2 e2 r2 n2 h2 => ?_
  obtain ⟨kk, rfl, q⟩ := onKey_at (n1.ext e2) h2
  have hH3 : H3 p = some (.dK (kvV kvs)) := ((e1.trans e2) p _ (r.wk.off hp) upd_same).2
  refine ⟨_, DGet.k hH3, k _ _ (post_trans ((Ext.new r.wk hp).trans (e1.trans e2)) (post_same r2.wk ?_ q))⟩
  rw [valV_kvV]
  cases ev : valP kvs kk with
  | none => exact n2
  | some d => exact aV_dn d (valP_atm hd.atm ev)
theorem de_ixD (hu : X.A.units + 64 < cLine) (hd : DisC X keys values kvs) (he : DE X e te) (hs : NoSl e) (h0 : keys ≠ [] := by exact fun z => nomatch z) (h15 : keys.length ≤ 15 := by decide) (hm : mergeK [] (kvV kvs) = kvV kvs := by rfl) :
    DE X (.Subscript (.Dict keys values pos) e cpos) (wIxD kvs te) := by
  refine pe_le (pe_dget (by omega) (pe_disp hd.pps hd.len.2.2 hd.len.1 h0 h15) he hs) fun σ H Q ⟨Z, ρ, w, Q', r, h, k⟩ => ?_
  intro p hp
  refine tPairs_c kvs ⟨upd_same, kvV kvs, rfl, by rw [show (kvV kvs).length = kvs.length from List.length_map _, ← hd.len.2.1]; exact h15, ?_⟩
  rw [upd_upd, hm]
  have r0 := r.ext (Ext.new r.wk hp) (r.wk.new (o := .dK (kvV kvs)) hp)
  refine up1 r0 h fun y H2 dy w1 e1 r1 n1 h1 => ?_
  obtain ⟨kk, rfl, d, hd', q⟩ := onKey_at n1 h1
  have hH3 : H2 p = some (.dK (kvV kvs)) := (e1 p _ (r.wk.off hp) upd_same).2
  refine ⟨p, aV d, rfl, ?_, k _ _ (post_trans ((Ext.new r.wk hp).trans e1) (post_same r1.wk (aV_dn d (valP_atm hd.atm hd')) q))⟩
  have := DGet.k (k := kk) hH3
  rwa [valV_kvV, hd'] at this
end
/-- a tuple of the module -/
theorem gt_mk {K : Frag} {h : Heap} {mg : Str → Option Value} {x : Str} {a : Addr} {od : Option Addr} {its : Array Value} {n : Nat} {sl : Array (Option Value)} {ds : List PV} (X : K.In h) (G : h.Ns mainGlobals mg)
    (g : PySem.W.nsIn K mainGlobals x = some (some (.ref a))) (l : K.lookup a = some ⟨.type "tuple", od, .seq its n, sl⟩) (hz : its.size ≤ sizeLine) (hv : Vals (ds.map aV) its.toList) (ha : ∀ d ∈ ds, isAtm d = true) : GT K mg x ds := by
  refine ⟨a, _, PySem.W.mg_of X G g, ⟨_, its, n, l, rfl, rfl, hz, hv⟩, fun P W Z w H => ?_⟩
  induction ds generalizing its with
  | nil => exact .nil
  | cons d r ih =>
    have aux : ∀ ds : List PV, (∀ d ∈ ds, isAtm d = true) → DnAll ⟨⟨P, W, K⟩, Z⟩ w H (ds.map aV) ds := by
      intro ds
      induction ds with
      | nil => intro _; exact .nil
      | cons d r ih => intro h; exact .cons (aV_dn d (h d (List.mem_cons_self ..))) (ih fun d h' => h d (List.mem_cons_of_mem _ h'))
    exact aux _ ha
section
variable {ρ : Sl} {w : Wd} {Q : WQ} {te tf : WE} {kvs : List (Key × PV)} {z : PV} {s : Str} {i : Int}
theorem x_getC (h : te ρ w fun y w1 => tf ρ w1 fun z w2 => rGetC kvs y z w2 Q) : wGetC kvs te tf ρ w Q := h
theorem x_rgetS (h : Q ((valP kvs (.inr s)).getD z) w) : rGetC kvs (.str s) z w Q := h
theorem x_rgetI (h : Q ((valP kvs (.inl i)).getD z) w) : rGetC kvs (.int i) z w Q := h
theorem x_ixD (h : te ρ w fun y w1 => rIxD kvs y w1 Q) : wIxD kvs te ρ w Q := h
end
end Pd

/-! a chain of three comparisons; a, b = x, y -/
namespace L2
open PySem PySem.Spec PyProof.Rows
def tChain3 (r r' r'' : R2) (ta tb tc td : TE) : TE := fun σ H Q => ta σ H fun x H1 => tb σ H1 fun y H2 => r x y H2 fun z H3 => ∃ k, z = .bl k ∧
  (if k = true then tc σ H3 fun u H4 => r' y u H4 fun z' H5 => ∃ k', z' = .bl k' ∧ (if k' = true then td σ H5 fun v H6 => r'' u v H6 Q else Q (.bl false) H5) else Q (.bl false) H3)
theorem pe_chain3 {X : Cx} {a b c d : Expr} {ta tb tc td : TE} {pos : Pos} {op op' op'' : CmpOp} {r r' r'' : R2} (ho : OpR X (compareOp op) r) (ho' : OpR X (compareOp op') r') (ho'' : OpR X (compareOp op'') r'') (ha : PE X a ta) (hb : PE X b tb) (hc : PE X c tc) (hd : PE X d td)
    (hm : lastMarks [op, op', op''] [b, c, d] = false := by with_unfolding_all rfl) : PE X (.Compare a [op, op', op''] [b, c, d] pos) (tChain3 r r' r'' ta tb tc td) := by
  refine ⟨fun pins s σ H Q I h => ?_⟩
  refine Compare_chain (thn (ha.run pins s σ H _ I h) fun v s1 ⟨x, H1, I1, r1, q1⟩ => chain_link (thn (hb.run pins s1 σ H1 _ I1 q1) fun u s2 ⟨y, H2, I2, r2, q2⟩ =>
    thn (ho pins s2 σ H2 x y v u _ I2 r1 r2 q2) fun d s3 ⟨z, H3, I3, r3, k, e, q3⟩ => ?_)) hm
  subst e
  cases r3
  refine wpAny_truthy_bool ?_
  cases k with
  | false => exact ite_ff ⟨.bl false, H3, I3, rfl, q3⟩
  | true =>
    refine ite_tt (chain_link (thn (hc.run pins s3 σ H3 _ I3 q3) fun w' s4 ⟨z', H4, I4, r4, q4⟩ => thn (ho' pins s4 σ H4 y z' u w' _ I4 r2 r4 q4) fun d' s5 ⟨z5, H5, I5, r5, k5, e5, q5⟩ => ?_))
    subst e5
    cases r5
    refine wpAny_truthy_bool ?_
    cases k5 with
    | false => exact ite_ff ⟨.bl false, H5, I5, rfl, q5⟩
    | true => exact ite_tt (chain_last (thn (hd.run pins s5 σ H5 _ I5 q5) fun w6 s6 ⟨z6, H6, I6, r6, q6⟩ => ho'' pins s6 σ H6 z' z6 w' w6 Q I6 r4 r6 q6))
end L2
namespace Pd
open PySem L2
def wChain3 (r r' r'' : R2D) (ta tb tc td : WE) : WE := fun ρ w Q => ta ρ w fun x w1 => tb ρ w1 fun y w2 => r x y w2 fun z w3 => onB z fun k => if k = true then
  (tc ρ w3 fun u w4 => r' y u w4 fun z' w5 => onB z' fun k' => if k' = true then td ρ w5 fun v w6 => r'' u v w6 Q else Q (.bl false) w5) else Q (.bl false) w3
section
variable {X : Cx} {a b c d : Expr} {ta tb tc td : WE} {pos : Pos}
theorem de_chain3 {op op' op'' : CmpOp} {rD rD' rD'' : R2D} (c1 : CmD X op rD) (c2 : CmD X op' rD') (c3 : CmD X op'' rD'') (ha : DE X a ta) (hb : DE X b tb) (hc : DE X c tc) (hd : DE X d td)
    (hm : lastMarks [op, op', op''] [b, c, d] = false := by with_unfolding_all rfl) : DE X (.Compare a [op, op', op''] [b, c, d] pos) (wChain3 rD rD' rD'' ta tb tc td) := by
  obtain ⟨r, ho, hl⟩ := c1.ex
  obtain ⟨r', ho', hl'⟩ := c2.ex
  obtain ⟨r'', ho'', hl''⟩ := c3.ex
  refine pe_le (pe_chain3 ho ho' ho'' ha hb hc hd hm) fun σ H Q ⟨Z, ρ, w, Q', r0, h, k⟩ => ?_
  refine up1 r0 h fun x H1 dx w1 e1 r1 n1 h1 => ?_
  refine up1 r1 h1 fun y H2 dy w2 e2 r2 n2 h2 => ?_
  refine hl Z x y H2 dx dy w2 _ _ r2.wk (n1.ext e2) n2 h2 fun z H3 ⟨dz, w3, e3, k3, n3, h3⟩ => ?_
  have r3 := r2.ext e3 k3
  obtain ⟨kb, rfl, rfl, h3⟩ := onB_of n3 h3
  refine ⟨kb, rfl, ?_⟩
  cases kb with
  | true =>
    refine iteT (up1 r3 h3 fun u H4 du w4 e4 r4 n4 h4 => ?_)
    refine hl' Z y u H4 dy du w4 _ _ r4.wk ((n2.ext e3).ext e4) n4 h4 fun z' H5 ⟨dz', w5, e5, k5, n5, h5⟩ => ?_
    have r5 := r4.ext e5 k5
    obtain ⟨kb', rfl, rfl, h5⟩ := onB_of n5 h5
    refine ⟨kb', rfl, ?_⟩
    cases kb' with
    | true =>
      refine iteT (up1 r5 h5 fun v H6 dv w6 e6 r6 n6 h6 => ?_)
      exact hl'' Z u v H6 du dv w6 _ _ r6.wk ((n4.ext e5).ext e6) n6 h6 fun v' H7 p => k v' H7 (post_trans (e1.trans (e2.trans (e3.trans (e4.trans (e5.trans e6))))) p)
    | false => exact iteF (k _ _ (post_trans (e1.trans (e2.trans (e3.trans (e4.trans e5)))) (post_same r5.wk (.bl false) h5)))
  | false => exact iteF (k _ _ (post_trans (e1.trans (e2.trans e3)) (post_same r3.wk (.bl false) h3)))
def wPar (i j : Nat) (t : WA) : WS := fun D ρ w => t ρ w fun ds w1 => match ds with
  | [x, y] => D.nx ((ρ.set i (some x)).set j (some y)) w1
  | _ => False
def wPar3 (i j l : Nat) (t : WA) : WS := fun D ρ w => t ρ w fun ds w1 => match ds with
  | [x, y, z] => D.nx (((ρ.set i (some x)).set j (some y)).set l (some z)) w1
  | _ => False
theorem ds_par {i j : Nat} {x y : Str} {t : WA} {px py pt : Pos} {kt k2 pt2} (hc : X.calm = true) (hN : X.N.Nodup) (hi : X.N[i]? = some x) (hj : X.N[j]? = some y) (hij : i ≠ j)
    (hx : X.env.scope.names.lookup x = some .local) (hy : X.env.scope.names.lookup y = some .local) (ha : DA X [a, b] t)
    (hw : swappedStores [.Tuple [.Name x px, .Name y py] kt pt] (.Tuple [a, b] k2 pt2) X.env = pure (some [x, y]) := by rfl)
    (hs : swapsWithSole [.Tuple [.Name x px, .Name y py] kt pt] (.Tuple [a, b] k2 pt2) pos.line X.env = pure false := by rfl) :
    DS X (.Assign [.Tuple [.Name x px, .Name y py] kt pt] (.Tuple [a, b] k2 pt2) pos) (wPar i j t) :=
  ps_le (ps_par hc hN hi hj hij hx hy ha hw hs) fun D σ H ⟨Z, ρ, w, E, r, h, k⟩ => upA1 r h fun vs H1 ds w1 e1 r1 n h1 => by
    match ds, n, h1 with
    | [d1, d2], .cons n1 (.cons n2 .nil), h1 => exact ⟨_, _, rfl, k.nx _ _ _ _ e1 ((r1.set n1 i).set n2 j) h1⟩
theorem ds_par3 {i j l : Nat} {x y z : Str} {t : WA} {px py pz pt : Pos} {kt k2 pt2} (hc : X.calm = true) (hN : X.N.Nodup) (hi : X.N[i]? = some x) (hj : X.N[j]? = some y) (hl : X.N[l]? = some z) (hij : i ≠ j) (hil : i ≠ l) (hjl : j ≠ l)
    (hx : X.env.scope.names.lookup x = some .local) (hy : X.env.scope.names.lookup y = some .local) (hz : X.env.scope.names.lookup z = some .local) (ha : DA X [a, b, c] t)
    (hw : swappedStores [.Tuple [.Name x px, .Name y py, .Name z pz] kt pt] (.Tuple [a, b, c] k2 pt2) X.env = pure (some [x, y, z]) := by rfl)
    (hs : swapsWithSole [.Tuple [.Name x px, .Name y py, .Name z pz] kt pt] (.Tuple [a, b, c] k2 pt2) pos.line X.env = pure false := by rfl) :
    DS X (.Assign [.Tuple [.Name x px, .Name y py, .Name z pz] kt pt] (.Tuple [a, b, c] k2 pt2) pos) (wPar3 i j l t) :=
  ps_le (ps_par3 hc hN hi hj hl hij hil hjl hx hy hz ha hw hs) fun D σ H ⟨Z, ρ, w, E, r, h, k⟩ => upA1 r h fun vs H1 ds w1 e1 r1 n h1 => by
    match ds, n, h1 with
    | [d1, d2, d3], .cons n1 (.cons n2 (.cons n3 .nil)), h1 => exact ⟨_, _, _, rfl, k.nx _ _ _ _ e1 (((r1.set n1 i).set n2 j).set n3 l) h1⟩
end
section
variable {ρ : Sl} {w : Wd} {Q : WQ} {D : WEnds} {ta tb tc td : WE} {TA : WA} {r r' r'' : R2D} {x y z : PV} {i j l : Nat}
theorem x_chain3 (h : ta ρ w fun x w1 => tb ρ w1 fun y w2 => r x y w2 fun z w3 => onB z fun k => if k = true then
  (tc ρ w3 fun u w4 => r' y u w4 fun z' w5 => onB z' fun k' => if k' = true then td ρ w5 fun v w6 => r'' u v w6 Q else Q (.bl false) w5) else Q (.bl false) w3) : wChain3 r r' r'' ta tb tc td ρ w Q := h
def onPar (i j : Nat) (D : WEnds) (ρ : Sl) (ds : List PV) (w1 : Wd) : Prop := match ds with
  | [x, y] => D.nx ((ρ.set i (some x)).set j (some y)) w1
  | _ => False
def onPar3 (i j l : Nat) (D : WEnds) (ρ : Sl) (ds : List PV) (w1 : Wd) : Prop := match ds with
  | [x, y, z] => D.nx (((ρ.set i (some x)).set j (some y)).set l (some z)) w1
  | _ => False
theorem x_par (h : TA ρ w fun ds w1 => onPar i j D ρ ds w1) : wPar i j TA D ρ w := h
theorem x_par3 (h : TA ρ w fun ds w1 => onPar3 i j l D ρ ds w1) : wPar3 i j l TA D ρ w := h
theorem x_onPar (h : D.nx ((ρ.set i (some x)).set j (some y)) w) : onPar i j D ρ [x, y] w := h
theorem x_onPar3 (h : D.nx (((ρ.set i (some x)).set j (some y)).set l (some z)) w) : onPar3 i j l D ρ [x, y, z] w := h
end
end Pd

/-! going through a reading, step by step -/
namespace Pd
open PySem L2
section
variable {ρ : Sl} {w : Wd} {Q : WQ} {D : WEnds} {t u : WS} {te ta tb tc : WE} {tA tB : WT} {TA : WA} {g : WG} {r r' : R2D} {p : PSp} {rc : RcD} {d x y : PV} {ds es xs : List PV} {i j : Int} {n k : Nat} {a : Addr} {s z : Str} {b : Bool} {wi : WI} {tl th : WO} {vs : List Nat} {A B : Prop}
theorem x_seq (h : t { nx := u D, rt := D.rt, bk := D.bk, ct := D.ct } ρ w) : wSeq2 t u D ρ w := h
theorem x_next (h : D.nx ρ w) : wNext D ρ w := h
theorem x_break (h : D.bk ρ w) : wBreak D ρ w := h
theorem x_cont (h : D.ct ρ w) : wCont D ρ w := h
theorem x_asg (h : te ρ w fun x w1 => g x ρ w1 D.nx) : wAsg te g D ρ w := h
theorem x_drop (h : te ρ w fun _ w1 => D.nx ρ w1) : wDrop te D ρ w := h
theorem x_ret (h : te ρ w D.rt) : wRet te D ρ w := h
theorem x_retN (h : D.rt .non w) : wRetN D ρ w := h
theorem x_if (h : tA ρ w fun b w1 => if b = true then t D ρ w1 else u D ρ w1) : wIf tA t u D ρ w := h
theorem x_for {wb : WS} (h : wi ρ w fun ds w1 => forD g wb D ds ρ w1) : wFor wi g wb D ρ w := h
theorem x_name {N : Sl → Wd → Prop} (h : N (ρ.set n (some d)) w) : wName n d ρ w N := h
theorem x_gtup {N : Sl → Wd → Prop} {gs : WGs} (hl : ds.length = n) (h : gs ds ρ w N) : wgTup n gs (.tup ds) ρ w N := ⟨hl, h⟩
theorem x_gcons {N : Sl → Wd → Prop} {gs : WGs} (h : g d ρ w fun ρ' w' => gs ds ρ' w' N) : wgCons g gs (d :: ds) ρ w N := h
theorem x_gnil {N : Sl → Wd → Prop} (h : N ρ w) : wgNil [] ρ w N := h
theorem x_gsubc {N : Sl → Wd → Prop} (h : te ρ w fun o w1 => rSubC n d o w1 fun w2 => N ρ w2) : wgSubC n te d ρ w N := h
theorem x_rsubc {N : Wd → Prop} (hw : w a = some (.lst ds)) (hl : n < ds.length) (h : N (wset w a (.lst (ds.set n d)))) : rSubC n d (.ref a) w N := by
  unfold rSubC; simp only [hw]; exact ⟨hl, h⟩
theorem x_var (e : ρ[n]? = some (some d)) (h : Q d w) : wVar n ρ w Q := by
  unfold wVar getS; simp only [e]; exact h
theorem x_v0 {r : Sl} (h : Q d w) : wVar 0 (some d :: r) w Q := h
theorem x_v1 {o0 : Option PV} {r : Sl} (h : Q d w) : wVar 1 (o0 :: some d :: r) w Q := h
theorem x_v2 {o0 o1 : Option PV} {r : Sl} (h : Q d w) : wVar 2 (o0 :: o1 :: some d :: r) w Q := h
theorem x_v3 {o0 o1 o2 : Option PV} {r : Sl} (h : Q d w) : wVar 3 (o0 :: o1 :: o2 :: some d :: r) w Q := h
theorem x_v4 {o0 o1 o2 o3 : Option PV} {r : Sl} (h : Q d w) : wVar 4 (o0 :: o1 :: o2 :: o3 :: some d :: r) w Q := h
theorem x_v5 {o0 o1 o2 o3 o4 : Option PV} {r : Sl} (h : Q d w) : wVar 5 (o0 :: o1 :: o2 :: o3 :: o4 :: some d :: r) w Q := h
theorem x_v6 {o0 o1 o2 o3 o4 o5 : Option PV} {r : Sl} (h : Q d w) : wVar 6 (o0 :: o1 :: o2 :: o3 :: o4 :: o5 :: some d :: r) w Q := h
theorem x_v7 {o0 o1 o2 o3 o4 o5 o6 : Option PV} {r : Sl} (h : Q d w) : wVar 7 (o0 :: o1 :: o2 :: o3 :: o4 :: o5 :: o6 :: some d :: r) w Q := h
theorem x_v8 {o0 o1 o2 o3 o4 o5 o6 o7 : Option PV} {r : Sl} (h : Q d w) : wVar 8 (o0 :: o1 :: o2 :: o3 :: o4 :: o5 :: o6 :: o7 :: some d :: r) w Q := h
theorem x_v9 {o0 o1 o2 o3 o4 o5 o6 o7 o8 : Option PV} {r : Sl} (h : Q d w) : wVar 9 (o0 :: o1 :: o2 :: o3 :: o4 :: o5 :: o6 :: o7 :: o8 :: some d :: r) w Q := h
theorem x_v10 {o0 o1 o2 o3 o4 o5 o6 o7 o8 o9 : Option PV} {r : Sl} (h : Q d w) : wVar 10 (o0 :: o1 :: o2 :: o3 :: o4 :: o5 :: o6 :: o7 :: o8 :: o9 :: some d :: r) w Q := h
theorem x_v11 {o0 o1 o2 o3 o4 o5 o6 o7 o8 o9 o10 : Option PV} {r : Sl} (h : Q d w) : wVar 11 (o0 :: o1 :: o2 :: o3 :: o4 :: o5 :: o6 :: o7 :: o8 :: o9 :: o10 :: some d :: r) w Q := h
theorem x_v12 {o0 o1 o2 o3 o4 o5 o6 o7 o8 o9 o10 o11 : Option PV} {r : Sl} (h : Q d w) : wVar 12 (o0 :: o1 :: o2 :: o3 :: o4 :: o5 :: o6 :: o7 :: o8 :: o9 :: o10 :: o11 :: some d :: r) w Q := h
theorem x_v13 {o0 o1 o2 o3 o4 o5 o6 o7 o8 o9 o10 o11 o12 : Option PV} {r : Sl} (h : Q d w) : wVar 13 (o0 :: o1 :: o2 :: o3 :: o4 :: o5 :: o6 :: o7 :: o8 :: o9 :: o10 :: o11 :: o12 :: some d :: r) w Q := h
theorem x_v14 {o0 o1 o2 o3 o4 o5 o6 o7 o8 o9 o10 o11 o12 o13 : Option PV} {r : Sl} (h : Q d w) : wVar 14 (o0 :: o1 :: o2 :: o3 :: o4 :: o5 :: o6 :: o7 :: o8 :: o9 :: o10 :: o11 :: o12 :: o13 :: some d :: r) w Q := h
theorem x_v15 {o0 o1 o2 o3 o4 o5 o6 o7 o8 o9 o10 o11 o12 o13 o14 : Option PV} {r : Sl} (h : Q d w) : wVar 15 (o0 :: o1 :: o2 :: o3 :: o4 :: o5 :: o6 :: o7 :: o8 :: o9 :: o10 :: o11 :: o12 :: o13 :: o14 :: some d :: r) w Q := h
theorem x_v16 {o0 o1 o2 o3 o4 o5 o6 o7 o8 o9 o10 o11 o12 o13 o14 o15 : Option PV} {r : Sl} (h : Q d w) : wVar 16 (o0 :: o1 :: o2 :: o3 :: o4 :: o5 :: o6 :: o7 :: o8 :: o9 :: o10 :: o11 :: o12 :: o13 :: o14 :: o15 :: some d :: r) w Q := h
theorem x_v17 {o0 o1 o2 o3 o4 o5 o6 o7 o8 o9 o10 o11 o12 o13 o14 o15 o16 : Option PV} {r : Sl} (h : Q d w) : wVar 17 (o0 :: o1 :: o2 :: o3 :: o4 :: o5 :: o6 :: o7 :: o8 :: o9 :: o10 :: o11 :: o12 :: o13 :: o14 :: o15 :: o16 :: some d :: r) w Q := h
theorem x_v18 {o0 o1 o2 o3 o4 o5 o6 o7 o8 o9 o10 o11 o12 o13 o14 o15 o16 o17 : Option PV} {r : Sl} (h : Q d w) : wVar 18 (o0 :: o1 :: o2 :: o3 :: o4 :: o5 :: o6 :: o7 :: o8 :: o9 :: o10 :: o11 :: o12 :: o13 :: o14 :: o15 :: o16 :: o17 :: some d :: r) w Q := h
theorem x_v19 {o0 o1 o2 o3 o4 o5 o6 o7 o8 o9 o10 o11 o12 o13 o14 o15 o16 o17 o18 : Option PV} {r : Sl} (h : Q d w) : wVar 19 (o0 :: o1 :: o2 :: o3 :: o4 :: o5 :: o6 :: o7 :: o8 :: o9 :: o10 :: o11 :: o12 :: o13 :: o14 :: o15 :: o16 :: o17 :: o18 :: some d :: r) w Q := h
theorem x_v20 {o0 o1 o2 o3 o4 o5 o6 o7 o8 o9 o10 o11 o12 o13 o14 o15 o16 o17 o18 o19 : Option PV} {r : Sl} (h : Q d w) : wVar 20 (o0 :: o1 :: o2 :: o3 :: o4 :: o5 :: o6 :: o7 :: o8 :: o9 :: o10 :: o11 :: o12 :: o13 :: o14 :: o15 :: o16 :: o17 :: o18 :: o19 :: some d :: r) w Q := h
theorem x_v21 {o0 o1 o2 o3 o4 o5 o6 o7 o8 o9 o10 o11 o12 o13 o14 o15 o16 o17 o18 o19 o20 : Option PV} {r : Sl} (h : Q d w) : wVar 21 (o0 :: o1 :: o2 :: o3 :: o4 :: o5 :: o6 :: o7 :: o8 :: o9 :: o10 :: o11 :: o12 :: o13 :: o14 :: o15 :: o16 :: o17 :: o18 :: o19 :: o20 :: some d :: r) w Q := h
theorem x_v22 {o0 o1 o2 o3 o4 o5 o6 o7 o8 o9 o10 o11 o12 o13 o14 o15 o16 o17 o18 o19 o20 o21 : Option PV} {r : Sl} (h : Q d w) : wVar 22 (o0 :: o1 :: o2 :: o3 :: o4 :: o5 :: o6 :: o7 :: o8 :: o9 :: o10 :: o11 :: o12 :: o13 :: o14 :: o15 :: o16 :: o17 :: o18 :: o19 :: o20 :: o21 :: some d :: r) w Q := h
theorem x_v23 {o0 o1 o2 o3 o4 o5 o6 o7 o8 o9 o10 o11 o12 o13 o14 o15 o16 o17 o18 o19 o20 o21 o22 : Option PV} {r : Sl} (h : Q d w) : wVar 23 (o0 :: o1 :: o2 :: o3 :: o4 :: o5 :: o6 :: o7 :: o8 :: o9 :: o10 :: o11 :: o12 :: o13 :: o14 :: o15 :: o16 :: o17 :: o18 :: o19 :: o20 :: o21 :: o22 :: some d :: r) w Q := h
theorem x_v24 {o0 o1 o2 o3 o4 o5 o6 o7 o8 o9 o10 o11 o12 o13 o14 o15 o16 o17 o18 o19 o20 o21 o22 o23 : Option PV} {r : Sl} (h : Q d w) : wVar 24 (o0 :: o1 :: o2 :: o3 :: o4 :: o5 :: o6 :: o7 :: o8 :: o9 :: o10 :: o11 :: o12 :: o13 :: o14 :: o15 :: o16 :: o17 :: o18 :: o19 :: o20 :: o21 :: o22 :: o23 :: some d :: r) w Q := h
theorem x_v25 {o0 o1 o2 o3 o4 o5 o6 o7 o8 o9 o10 o11 o12 o13 o14 o15 o16 o17 o18 o19 o20 o21 o22 o23 o24 : Option PV} {r : Sl} (h : Q d w) : wVar 25 (o0 :: o1 :: o2 :: o3 :: o4 :: o5 :: o6 :: o7 :: o8 :: o9 :: o10 :: o11 :: o12 :: o13 :: o14 :: o15 :: o16 :: o17 :: o18 :: o19 :: o20 :: o21 :: o22 :: o23 :: o24 :: some d :: r) w Q := h
theorem x_c (h : Q d w) : wC d ρ w Q := h
theorem x_op (h : ta ρ w fun x w1 => tb ρ w1 fun y w2 => r x y w2 Q) : wOp r ta tb ρ w Q := h
theorem x_andV (h : ta ρ w fun x w1 => onB x fun c => if c = true then tb ρ w1 Q else Q (.bl false) w1) : wAndV ta tb ρ w Q := h
theorem x_orV (h : ta ρ w fun x w1 => onB x fun c => if c = true then Q (.bl true) w1 else tb ρ w1 Q) : wOrV ta tb ρ w Q := h
theorem x_notV (h : ta ρ w fun x w1 => onB x fun c => Q (.bl (!c)) w1) : wNotV ta ρ w Q := h
theorem x_ifE (h : tA ρ w fun c w1 => if c = true then ta ρ w1 Q else tb ρ w1 Q) : wIfE tA ta tb ρ w Q := h
theorem x_neg (h : ta ρ w fun x w1 => rNeg x w1 Q) : wNeg ta ρ w Q := h
theorem x_rneg (h : Q (.int (-i)) w) : rNeg (.int i) w Q := h
theorem x_chain (h : ta ρ w fun x w1 => tb ρ w1 fun y w2 => r x y w2 fun z w3 => onB z fun k => if k = true then tc ρ w3 fun u w4 => r' y u w4 Q else Q (.bl false) w3) : wChain r r' ta tb tc ρ w Q := h
theorem x_tup (h : TA ρ w fun xs w1 => xs.length ≤ sizeLine ∧ Q (.tup xs) w1) : wTup TA ρ w Q := h
theorem x_lst (h : TA ρ w fun xs w1 => xs.length ≤ sizeLine ∧ Q (.lst xs) w1) : wLst TA ρ w Q := h
theorem x_mlst (h : TA ρ w fun xs w1 => xs.length ≤ sizeLine ∧ ∀ p, w1 p = none → Q (.ref p) (wset w1 p (.lst xs))) : wMLst TA ρ w Q := h
theorem x_cons {N : List PV → Wd → Prop} (h : ta ρ w fun x w1 => TA ρ w1 fun xs w2 => N (x :: xs) w2) : wCons ta TA ρ w N := h
theorem x_nil {N : List PV → Wd → Prop} (h : N [] w) : wNil ρ w N := h
theorem x_cb (h : TA ρ w fun ds w1 => rc ds w1 Q) : wCB rc TA ρ w Q := h
theorem x_call (h : TA ρ w fun ds w1 => p ds w1 Q) : wCall p TA ρ w Q := h
theorem x_ixc (h : ta ρ w fun x w1 => rIxC n x w1 Q) : wIxC n ta ρ w Q := h
theorem x_rixl (h : onAt ds n fun d => Q d w) : rIxC n (.lst ds) w Q := h
theorem x_rixt (h : onAt ds n fun d => Q d w) : rIxC n (.tup ds) w Q := h
theorem x_rixz (h : onAt ds n fun d => Q d w) : rIxC n (.scr ds) w Q := h
theorem x_rixr (hw : w a = some (.lst ds)) (h : onAt ds n fun d => Q d w) : rIxC n (.ref a) w Q := by unfold rIxC; simp only [vw, hw]; exact h
theorem x_at {α : Type} {xs : List α} {c : α} {N : α → Prop} (e : xs[n]? = some c) (h : N c) : onAt xs n N := onAt_of e h
theorem x_at0 {α : Type} {c0 : α} {r : List α} {N : α → Prop} (h : N c0) : onAt (c0 :: r) 0 N := h
theorem x_at1 {α : Type} {c0 c1 : α} {r : List α} {N : α → Prop} (h : N c1) : onAt (c0 :: c1 :: r) 1 N := h
theorem x_at2 {α : Type} {c0 c1 c2 : α} {r : List α} {N : α → Prop} (h : N c2) : onAt (c0 :: c1 :: c2 :: r) 2 N := h
theorem x_at3 {α : Type} {c0 c1 c2 c3 : α} {r : List α} {N : α → Prop} (h : N c3) : onAt (c0 :: c1 :: c2 :: c3 :: r) 3 N := h
theorem x_at4 {α : Type} {c0 c1 c2 c3 c4 : α} {r : List α} {N : α → Prop} (h : N c4) : onAt (c0 :: c1 :: c2 :: c3 :: c4 :: r) 4 N := h
theorem x_at5 {α : Type} {c0 c1 c2 c3 c4 c5 : α} {r : List α} {N : α → Prop} (h : N c5) : onAt (c0 :: c1 :: c2 :: c3 :: c4 :: c5 :: r) 5 N := h
theorem x_at6 {α : Type} {c0 c1 c2 c3 c4 c5 c6 : α} {r : List α} {N : α → Prop} (h : N c6) : onAt (c0 :: c1 :: c2 :: c3 :: c4 :: c5 :: c6 :: r) 6 N := h
theorem x_sl (h : te ρ w fun x w1 => tl ρ w1 fun l w2 => th ρ w2 fun u w3 => rSl l u x w3 Q) : wSl te tl th ρ w Q := h
theorem x_no {N : Option Int → Wd → Prop} (h : N none w) : wNo ρ w N := h
theorem x_part {N : Option Int → Wd → Prop} (h : te ρ w fun x w1 => onI x fun i => N (some i) w1) : wPart te ρ w N := h
theorem x_onI {N : Int → Prop} (h : N i) : onI (.int i) N := h
theorem x_onB {N : Bool → Prop} (h : N b) : onB (.bl b) N := h
theorem x_onS {N : Str → Prop} (h : N s) : onS (.str s) N := h
theorem x_sll {l u : Option Int} (h : Q (.lst (cutD ds l u)) w) : rSl l u (.lst ds) w Q := h
theorem x_slz {l u : Option Int} (h : Q (.lst (cutD ds l u)) w) : rSl l u (.scr ds) w Q := h
theorem x_slt {l u : Option Int} (h : Q (.tup (cutD ds l u)) w) : rSl l u (.tup ds) w Q := h
theorem x_sls {l u : Option Int} (hl : s.length ≤ sizeLine) (h : Q (.str (cutS s l u)) w) : rSl l u (.str s) w Q := ⟨hl, h⟩
theorem x_lc (h : wi ρ w fun ds w1 => ds.length < sizeLine ∧ compD g tA te (wipeD ρ vs) (fun acc w2 => Q (.lst acc) w2) ds [] w1) : wLc wi g tA te vs ρ w Q := h
theorem x_seqI {N : List PV → Wd → Prop} (h : te ρ w fun x w1 => onSeq x fun ds => N ds w1) : wSeq te ρ w N := h
theorem x_sql {N : List PV → Prop} (h : N ds) : onSeq (.lst ds) N := h
theorem x_sqt {N : List PV → Prop} (h : N ds) : onSeq (.tup ds) N := h
theorem x_sqz {N : List PV → Prop} (h : N ds) : onSeq (.scr ds) N := h
theorem x_sqs {N : List PV → Prop} (h : N (signs s)) : onSeq (.str s) N := h
theorem x_rng1 {N : List PV → Wd → Prop} (h : TA ρ w fun ds w1 => rRng1 ds fun xs => N xs w1) : wRng1 TA ρ w N := h
theorem x_rrng1 {N : List PV → Prop} (h1 : -(2 ^ 62) ≤ j) (h2 : j < 2 ^ 62) (h : N (nums 0 j.toNat)) : rRng1 [.int j] N := ⟨⟨h1, h2⟩, h⟩
theorem x_rng2 {N : List PV → Wd → Prop} (h : TA ρ w fun ds w1 => rRng2 ds fun xs => N xs w1) : wRng2 TA ρ w N := h
theorem x_rrng2 {N : List PV → Prop} (h1 : -(2 ^ 62) ≤ i ∧ i < 2 ^ 62 ∧ -(2 ^ 62) ≤ j ∧ j < 2 ^ 62) (h : N (nums i (j - i).toNat)) : rRng2 [.int i, .int j] N := ⟨h1, h⟩
theorem x_join (h : ta ρ w fun x w1 => onS x fun a => te ρ w1 fun y w2 => rJoin a y w2 Q) : wJoin ta te ρ w Q := h
theorem x_test {N : Bool → Wd → Prop} (h : te ρ w fun z w1 => onB z fun b => N b w1) : wTest te ρ w N := h
theorem x_andT {N : Bool → Wd → Prop} (h : tA ρ w fun c w1 => if c = true then tB ρ w1 N else N false w1) : wAndT tA tB ρ w N := h
theorem x_orT {N : Bool → Wd → Prop} (h : tA ρ w fun c w1 => if c = true then N true w1 else tB ρ w1 N) : wOrT tA tB ρ w N := h
theorem x_notT {N : Bool → Wd → Prop} (h : tA ρ w fun c w1 => N (!c) w1) : wNotT tA ρ w N := h
theorem x_addI (h : Q (.int (i + j)) w) : dAdd (.int i) (.int j) w Q := h
theorem x_addS (hl : s.length + z.length ≤ sizeLine) (h : Q (.str (s ++ z)) w) : dAdd (.str s) (.str z) w Q := ⟨hl, h⟩
theorem x_addL (hl : ds.length + es.length ≤ sizeLine) (h : Q (.lst (ds ++ es)) w) : dAdd (.lst ds) (.lst es) w Q := ⟨hl, h⟩
theorem x_addT (hl : ds.length + es.length ≤ sizeLine) (h : Q (.tup (ds ++ es)) w) : dAdd (.tup ds) (.tup es) w Q := ⟨hl, h⟩
theorem x_sub (h : Q (.int (i - j)) w) : dSub (.int i) (.int j) w Q := h
theorem x_mod (c : 0 < j) (h : Q (.int (i % j)) w) : dMod (.int i) (.int j) w Q := ⟨c, h⟩
theorem x_fdiv (c : 0 < j) (c2 : j < 2 ^ 64) (h : Q (.int (i / j)) w) : dFdiv (.int i) (.int j) w Q := ⟨wide_div c (b := 64) (by omega) (by decide) (by decide), h⟩
theorem x_pow (c0 : 0 ≤ j) (c : j ≤ 1000000) (c2 : i.natAbs < 2 ^ 64) (h : Q (.int (i ^ j.toNat)) w) : dPow (.int i) (.int j) w Q := ⟨⟨c0, c, c2⟩, h⟩
theorem x_mul (c : (-(2 ^ 64) < i ∧ i < 2 ^ 64) ∨ (-(2 ^ 64) < j ∧ j < 2 ^ 64)) (h : Q (.int (i * j)) w) : dMul (.int i) (.int j) w Q := ⟨.inl c, h⟩
theorem x_mulS (c : MulOk s i) (h : Q (.str (Txt.mul s i)) w) : dMul (.str s) (.int i) w Q := ⟨c, h⟩
theorem x_eq (c1 : x.pl = true) (c2 : y.pl = true) (c3 : x.dep ≤ 64) (h : Q (.bl (PV.eqb x y)) w) : dEq x y w Q := by
  unfold dEq; rw [PV.weak_pl x c1, PV.weak_pl y c2]; exact ⟨⟨c1, c2, c3⟩, h⟩
theorem x_ne (c1 : x.pl = true) (c2 : y.pl = true) (c3 : x.dep ≤ 64) (h : Q (.bl (!PV.eqb x y)) w) : dNe x y w Q := by
  unfold dNe; rw [PV.weak_pl x c1, PV.weak_pl y c2]; exact ⟨⟨c1, c2, c3⟩, h⟩
theorem x_eqI (h : Q (.bl (decide (i = j))) w) : dEq (.int i) (.int j) w Q := x_eq (by simp [PV.pl]) (by simp [PV.pl]) (by simp [PV.dep]) (by simpa [PV.eqb, Bool.beq_eq_decide_eq] using h)
theorem x_neI (h : Q (.bl (!decide (i = j))) w) : dNe (.int i) (.int j) w Q := x_ne (by simp [PV.pl]) (by simp [PV.pl]) (by simp [PV.dep]) (by simpa [PV.eqb, Bool.beq_eq_decide_eq] using h)
theorem str_beq (x y : Str) : (x == y) = decide (x = y) := by
  by_cases e : x = y
  · subst e; simp
  · rw [decide_eq_false e]; simpa using e
theorem x_eqS (h : Q (.bl (decide (s = z))) w) : dEq (.str s) (.str z) w Q := x_eq (by simp [PV.pl]) (by simp [PV.pl]) (by simp [PV.dep]) (by simp only [PV.eqb, str_beq]; exact h)
theorem x_neS (h : Q (.bl (!decide (s = z))) w) : dNe (.str s) (.str z) w Q := x_ne (by simp [PV.pl]) (by simp [PV.pl]) (by simp [PV.dep]) (by simp only [PV.eqb, str_beq]; exact h)
theorem x_eqB {c : Bool} (h : Q (.bl (b == c)) w) : dEq (.bl b) (.bl c) w Q := x_eq (by simp [PV.pl]) (by simp [PV.pl]) (by simp [PV.dep]) (by simpa [PV.eqb] using h)
theorem x_ltI (h : Q (.bl (decide (i < j))) w) : dLt (.int i) (.int j) w Q := h
theorem x_leI (h : Q (.bl (decide (i ≤ j))) w) : dLe (.int i) (.int j) w Q := h
theorem x_gtI (h : Q (.bl (decide (j < i))) w) : dGt (.int i) (.int j) w Q := h
theorem x_geI (h : Q (.bl (decide (j ≤ i))) w) : dGe (.int i) (.int j) w Q := h
theorem x_ltS (h : Q (.bl (decide (s.cps.toList < z.cps.toList))) w) : dLt (.str s) (.str z) w Q := h
theorem x_gtS (h : Q (.bl (decide (z.cps.toList < s.cps.toList))) w) : dGt (.str s) (.str z) w Q := h
theorem x_isnt (h : Q (.bl true) w) : dIs false .non .non w Q := h
theorem x_isB {c : Bool} (h : Q (.bl (decide (b = c))) w) : dIs false (.bl b) (.bl c) w Q := h
theorem x_isnB {c : Bool} (h : Q (.bl (!decide (b = c))) w) : dIs true (.bl b) (.bl c) w Q := h
theorem x_lenL (h : Q (.int ds.length) w) : cLen [.lst ds] w Q := h
theorem x_lenT (h : Q (.int ds.length) w) : cLen [.tup ds] w Q := h
theorem x_lenZ (h : Q (.int ds.length) w) : cLen [.scr ds] w Q := h
theorem x_lenS (hl : s.length ≤ sizeLine) (h : Q (.int s.length) w) : cLen [.str s] w Q := ⟨hl, h⟩
theorem x_lenR (hw : w a = some (.lst ds)) (h : Q (.int ds.length) w) : cLen [.ref a] w Q := by unfold cLen; simp only [vw, hw]; exact h
theorem x_abs (h : Q (.int (if i < 0 then -i else i)) w) : cAbs [.int i] w Q := h
theorem x_max (h : Q (.int (if j > i then j else i)) w) : cMax2 [.int i, .int j] w Q := h
theorem x_min (h : Q (.int (if j < i then j else i)) w) : cMin2 [.int i, .int j] w Q := h
theorem x_intI (h : Q (.int i) w) : cInt [.int i] w Q := h
theorem x_intB (h : Q (.int (if b then 1 else 0)) w) : cInt [.bl b] w Q := h
theorem x_listL (h : Q (.lst ds) w) : cList [.lst ds] w Q := h
theorem x_listT (h : Q (.lst ds) w) : cList [.tup ds] w Q := h
theorem x_tupL (h : Q (.tup ds) w) : cTuple [.lst ds] w Q := h
theorem x_tupT (h : Q (.tup ds) w) : cTuple [.tup ds] w Q := h
theorem x_cI {c : String} {f : Wd → PV → Bool} (o : okTy w x) (h : Q (.bl (f w x)) w) : cI c f [x, .ty c] w Q := ⟨rfl, o, h⟩
theorem x_cI2 {c1 c2 : String} {f1 f2 : Wd → PV → Bool} (o : okTy w x) (h : Q (.bl (f1 w x || f2 w x)) w) : cI2 c1 c2 f1 f2 [x, .tup [.ty c1, .ty c2]] w Q := ⟨⟨rfl, rfl⟩, o, h⟩
theorem x_ixL (e : atI ds i = some d) (h : Q d w) : dIx (.lst ds) (.int i) w Q := ⟨d, e, h⟩
theorem x_ixT (e : atI ds i = some d) (h : Q d w) : dIx (.tup ds) (.int i) w Q := ⟨d, e, h⟩
theorem x_ixZ (e : atI ds i = some d) (h : Q d w) : dIx (.scr ds) (.int i) w Q := ⟨d, e, h⟩
theorem x_ixS {c : Nat} (e : atI s.cps.toList i = some c) (hl : s.length ≤ sizeLine) (h : Q (.str ⟨#[c]⟩) w) : dIx (.str s) (.int i) w Q := ⟨hl, c, e, h⟩
theorem x_and (c : A) (h : B) : A ∧ B := ⟨c, h⟩
theorem x_iteT {c : Prop} [Decidable c] (hc : c) (h : A) : if decide c = true then A else B := by rw [if_pos (decide_eq_true hc)]; exact h
theorem x_iteF {c : Prop} [Decidable c] (hc : ¬ c) (h : B) : if decide c = true then A else B := by rw [if_neg (by simpa using hc)]; exact h
theorem x_iteNT {c : Prop} [Decidable c] (hc : ¬ c) (h : A) : if (!decide c) = true then A else B := by rw [if_pos (by simpa using hc)]; exact h
theorem x_iteNF {c : Prop} [Decidable c] (hc : c) (h : B) : if (!decide c) = true then A else B := by rw [if_neg (by simpa using hc)]; exact h
theorem x_ite {c : Prop} [Decidable c] (h1 : c → A) (h2 : ¬ c → B) : if decide c = true then A else B := ite2 (fun h => h1 (by simpa using h)) fun h => h2 (by simpa using h)
theorem x_iteN {c : Prop} [Decidable c] (h1 : ¬ c → A) (h2 : c → B) : if (!decide c) = true then A else B := ite2 (fun h => h1 (by simpa using h)) fun h => h2 (by simpa using h)
theorem x_iTrue (h : A) : if True then A else B := by rw [if_pos True.intro]; exact h
theorem x_iFalse (h : B) : if False then A else B := by rw [if_neg id]; exact h
theorem x_iteV (hb : b = true) (h : A) : if b = true then A else B := by rw [if_pos hb]; exact h
theorem x_iteW (hb : b = false) (h : B) : if b = true then A else B := by rw [if_neg (by rw [hb]; decide)]; exact h
theorem x_iteNV (hb : b = false) (h : A) : if (!b) = true then A else B := by rw [if_pos (by rw [hb]; rfl)]; exact h
theorem x_iteNW (hb : b = true) (h : B) : if (!b) = true then A else B := by rw [if_neg (by rw [hb]; decide)]; exact h
theorem x_iteB (h1 : b = true → A) (h2 : b = false → B) : if b = true then A else B := ite2 h1 fun h => h2 (by simpa using h)
end
end Pd

/-! plain mathematics: texts, names -/
namespace Pd
open PySem L2

/-- a sign from a to z -/
def isLow (c : Nat) : Bool := decide (97 ≤ c) && decide (c ≤ 122)
/-- a NAME -/
def nameS (x : Str) : Bool := decide (1 ≤ x.length) && decide (x.length ≤ 8) && x.cps.toList.all isLow
def isNm : PV → Bool
  | .str x => nameS x
  | _ => false
def isVal : PV → Bool
  | .int _ => true
  | .str _ => true
  | _ => false
theorem letters_list : ("abcdefghijklmnopqrstuvwxyz" : Str).cps.toList = [97, 98, 99, 100, 101, 102, 103, 104, 105, 106, 107, 108, 109, 110, 111, 112, 113, 114, 115, 116, 117, 118, 119, 120, 121, 122] := by decide +kernel
theorem mem_letters (c : Nat) : decide (c ∈ ("abcdefghijklmnopqrstuvwxyz" : Str).cps.toList) = isLow c := by
  rw [letters_list, Bool.eq_iff_iff]
  simp only [decide_eq_true_eq, isLow, Bool.and_eq_true, List.mem_cons, List.not_mem_nil, or_false]
  omega
theorem cps_a : ("a" : Str).cps.toList = [97] := by decide +kernel
theorem cps_z : ("z" : Str).cps.toList = [122] := by decide +kernel
theorem lt_one (c d : Nat) : decide ([c] < [d]) = decide (c < d) := by
  rw [Bool.eq_iff_iff]
  simp only [decide_eq_true_eq]
  constructor
  · intro h
    cases h with
    | rel h => exact h
    | cons h => cases h
  · intro h; exact .rel h
theorem all_not_filter {α : Type} (p q : α → Bool) (h : ∀ x, p x = !q x) : ∀ xs : List α, (xs.filter q).isEmpty = xs.all p
  | [] => rfl
  | x :: r => by
    rw [List.all_cons, h x]
    cases e : q x with
    | true => simp [List.filter_cons, e]
    | false => simp only [List.filter_cons, e, Bool.false_eq_true, if_false, Bool.not_false, Bool.true_and]; exact all_not_filter p q h r
theorem eqbs_nil (xs : List PV) : PV.eqbs xs [] = xs.isEmpty := by
  cases xs <;> simp [PV.eqbs]
theorem pls_all {f : α → PV} (h : ∀ x, (f x).pl = true) : ∀ xs : List α, PV.pls (xs.map f) = true
  | [] => by simp [PV.pls]
  | x :: r => by simp [PV.pls, h x, pls_all h r]
theorem deps_all {f : α → PV} {n : Nat} (h : ∀ x, (f x).dep ≤ n) : ∀ xs : List α, PV.deps (xs.map f) ≤ n
  | [] => by simp [PV.deps]
  | x :: r => by
    have := deps_all h r
    have := h x
    simp only [List.map_cons, PV.deps]; omega
theorem pls_iff : ∀ {ds : List PV}, PV.pls ds = true ↔ ∀ d ∈ ds, d.pl = true
  | [] => by simp [PV.pls]
  | x :: r => by simp [PV.pls, pls_iff (ds := r)]
theorem pls_append {xs ys : List PV} (h1 : PV.pls xs = true) (h2 : PV.pls ys = true) : PV.pls (xs ++ ys) = true := by
  rw [pls_iff] at *
  intro d hd
  rcases List.mem_append.mp hd with h | h
  · exact h1 d h
  · exact h2 d h
/-- data has a known class -/
theorem okTy_pl {w : Wd} {d : PV} (h : d.pl = true) : okTy w d := by
  cases d <;> simp [PV.pl] at h <;> exact True.intro
theorem comp_mapG {α : Type} {i : Nat} {te : WE} {ρ : Sl} {k : List PV → Wd → Prop} {w : Wd} (g f : α → PV) : ∀ (xs : List α) (acc : List PV), (∀ x ∈ xs, ∀ Q : WQ, Q (f x) w → te (ρ.set i (some (g x))) w Q) → k (acc ++ xs.map f) w → compD (wName i) wYes te ρ k (xs.map g) acc w
  | [], acc, _, h => by simpa [compD] using h
  | d :: r, acc, he, h => by
    simp only [List.map_cons, compD, wName, wYes, if_true]
    refine he d (List.mem_cons_self) _ ?_
    exact comp_mapG g f r _ (fun x hx => he x (List.mem_cons_of_mem _ hx)) (by simpa using h)
theorem comp_filterG {α : Type} {i : Nat} {tt : WT} {te : WE} {ρ : Sl} {k : List PV → Wd → Prop} {w : Wd} (g : α → PV) (p : α → Bool) (f : α → PV) : ∀ (xs : List α) (acc : List PV), (∀ x ∈ xs, ∀ Q : Bool → Wd → Prop, Q (p x) w → tt (ρ.set i (some (g x))) w Q) → (∀ x ∈ xs, p x = true → ∀ Q : WQ, Q (f x) w → te (ρ.set i (some (g x))) w Q) → k (acc ++ (xs.filter p).map f) w → compD (wName i) tt te ρ k (xs.map g) acc w
  | [], acc, _, _, h => by simpa [compD] using h
  | d :: r, acc, ht, he, h => by
    simp only [List.map_cons, compD, wName]
    refine ht d (List.mem_cons_self) _ ?_
    cases e : p d with
    | true =>
      simp only [if_true]
      refine he d (List.mem_cons_self) e _ ?_
      exact comp_filterG g p f r _ (fun x hx => ht x (List.mem_cons_of_mem _ hx)) (fun x hx => he x (List.mem_cons_of_mem _ hx)) (by simpa [List.filter_cons, e] using h)
    | false =>
      simp only [Bool.false_eq_true, if_false]
      exact comp_filterG g p f r _ (fun x hx => ht x (List.mem_cons_of_mem _ hx)) (fun x hx => he x (List.mem_cons_of_mem _ hx)) (by simpa [List.filter_cons, e] using h)
/-- one sign a text, joined by nothing -/
theorem join_signs (ys : List Str) : (Txt.join "" ys).cps.toList = (ys.map (·.cps.toList)).flatten := by
  rw [TL.join_eq]
  have h := TL.tl_join "" ys
  have e : TL.tl ("" : Str) = [] := by decide +kernel
  rw [e] at h
  have j : ∀ ps : List (List Nat), TL.joinL [] ps = ps.flatten := by
    intro ps
    induction ps with
    | nil => rfl
    | cons p r ih =>
      cases r with
      | nil => simp [TL.joinL]
      | cons q r => simp only [TL.joinL, List.nil_append, ih, List.flatten_cons]
  rw [j] at h
  exact h
theorem str_len (x : Str) : x.length = x.cps.toList.length := by simp [Str.length]
theorem join_len {ys : List Str} (h : ∀ y ∈ ys, y.length = 1) : (Txt.join "" ys).length = ys.length := by
  rw [str_len, join_signs]
  induction ys with
  | nil => rfl
  | cons y r ih =>
    simp only [List.map_cons, List.flatten_cons, List.length_append, List.length_cons]
    rw [ih fun z hz => h z (List.mem_cons_of_mem _ hz), ← str_len, h y List.mem_cons_self]
    omega
theorem cutS_len (z : Str) (lo hi : Option Int) : (cutS z lo hi).length ≤ z.length := by
  rw [str_len, str_len]
  simp only [cutS, List.length_take, List.length_drop]
  omega
theorem app_len (x y : Str) : (x ++ y).length = x.length + y.length := by
  rw [str_len, str_len, str_len]
  show (x.cps ++ y.cps).toList.length = _
  simp
theorem sl_small {n : Nat} (h : n ≤ 1000000) : n ≤ sizeLine := by rw [sizeLine_eq]; omega
theorem strsOf_map : ∀ xs : List Str, strsOf (xs.map PV.str) = some xs
  | [] => rfl
  | x :: r => by simp [strsOf, strsOf_map r]
end Pd
namespace Pd
open PySem L2
theorem cutD_map {α β : Type} (f : α → β) (xs : List α) (lo hi : Option Int) : cutD (xs.map f) lo hi = (cutD xs lo hi).map f := by
  unfold cutD
  rw [List.length_map, List.map_take, List.map_drop]
theorem cutD_le {α : Type} (xs : List α) (n : Nat) : (cutD xs none (some (n : Int))).length ≤ n := by
  unfold cutD
  rw [HT.sIx_nat, HT.sIx_none, List.length_take]
  omega
theorem cutD_mem {α : Type} {xs : List α} {lo hi : Option Int} {x : α} (h : x ∈ cutD xs lo hi) : x ∈ xs := by
  unfold cutD at h
  exact List.mem_of_mem_drop (List.mem_of_mem_take h)
theorem cutD_len {α : Type} (xs : List α) (lo hi : Option Int) : (cutD xs lo hi).length ≤ xs.length := by
  unfold cutD
  rw [List.length_take, List.length_drop]
  omega
/-- data that is handed about: no things, not deep, texts not long -/
def szB : PV → Bool
  | .str s => decide (s.length ≤ 1000)
  | _ => true
def okB (d : PV) : Bool := d.pl && decide (d.dep ≤ 10) && szB d
section
variable {w : Wd} {Q : WQ} {d : PV} {ds : List PV} {i : Int} {s : Str}
theorem all_mem {p : PV → Bool} (h : ds.all p = true) : ∀ d ∈ ds, p d = true := List.all_eq_true.mp h
theorem x_ixLB (p : PV → Bool) (h0 : 0 ≤ i) (h1 : i < ds.length) (ha : ds.all p = true) (h : ∀ d, p d = true → d ∈ ds → Q d w) : dIx (.lst ds) (.int i) w Q := by
  obtain ⟨d, hd, hm⟩ := atI_lt h0 h1
  exact ⟨d, hd, h d (all_mem ha d hm) hm⟩
theorem x_ixTB (p : PV → Bool) (h0 : 0 ≤ i) (h1 : i < ds.length) (ha : ds.all p = true) (h : ∀ d, p d = true → d ∈ ds → Q d w) : dIx (.tup ds) (.int i) w Q := by
  obtain ⟨d, hd, hm⟩ := atI_lt h0 h1
  exact ⟨d, hd, h d (all_mem ha d hm) hm⟩
theorem x_ixSB (h0 : 0 ≤ i) (h1 : i < s.length) (hl : s.length ≤ sizeLine) (h : ∀ c, c ∈ s.cps.toList → Q (.str ⟨#[c]⟩) w) : dIx (.str s) (.int i) w Q := by
  rw [str_len] at h1
  obtain ⟨c, hc, hm⟩ := atI_lt h0 h1
  exact ⟨hl, c, hc, h c hm⟩
end
theorem nums_zero (n : Nat) : nums 0 n = (List.range n).map fun (i : Nat) => PV.int (0 + i) := rfl
end Pd

/-! the steps found by instances: one look-up a step -/
namespace Pd
open PySem L2
class Stp (G : Prop) (N : outParam Prop) : Prop where
  go : N → G
section
variable {ρ : Sl} {w : Wd} {Q : WQ} {D : WEnds} {t u : WS} {te ta tb tc : WE} {tA tB : WT} {TA : WA} {g : WG} {r r' : R2D} {p : PSp} {rc : RcD} {d x y : PV} {ds es xs : List PV} {i j : Int} {n k : Nat} {a : Addr} {s z : Str} {b : Bool} {wi : WI} {tl th : WO} {vs : List Nat} {A B : Prop}
instance s_seq  : Stp (wSeq2 t u D ρ w) (t { nx := u D, rt := D.rt, bk := D.bk, ct := D.ct } ρ w) := ⟨x_seq⟩
instance s_next  : Stp (wNext D ρ w) (D.nx ρ w) := ⟨x_next⟩
instance s_break  : Stp (wBreak D ρ w) (D.bk ρ w) := ⟨x_break⟩
instance s_cont  : Stp (wCont D ρ w) (D.ct ρ w) := ⟨x_cont⟩
instance s_asg  : Stp (wAsg te g D ρ w) (te ρ w fun x w1 => g x ρ w1 D.nx) := ⟨x_asg⟩
instance s_drop  : Stp (wDrop te D ρ w) (te ρ w fun _ w1 => D.nx ρ w1) := ⟨x_drop⟩
instance s_ret  : Stp (wRet te D ρ w) (te ρ w D.rt) := ⟨x_ret⟩
instance s_retN  : Stp (wRetN D ρ w) (D.rt .non w) := ⟨x_retN⟩
instance s_if  : Stp (wIf tA t u D ρ w) (tA ρ w fun b w1 => if b = true then t D ρ w1 else u D ρ w1) := ⟨x_if⟩
instance s_for {wb : WS} : Stp (wFor wi g wb D ρ w) (wi ρ w fun ds w1 => forD g wb D ds ρ w1) := ⟨x_for⟩
instance s_name {N : Sl → Wd → Prop} : Stp (wName n d ρ w N) (N (ρ.set n (some d)) w) := ⟨x_name⟩
instance s_gcons {N : Sl → Wd → Prop} {gs : WGs} : Stp (wgCons g gs (d :: ds) ρ w N) (g d ρ w fun ρ' w' => gs ds ρ' w' N) := ⟨x_gcons⟩
instance s_gnil {N : Sl → Wd → Prop} : Stp (wgNil [] ρ w N) (N ρ w) := ⟨x_gnil⟩
instance s_gsubc {N : Sl → Wd → Prop} : Stp (wgSubC n te d ρ w N) (te ρ w fun o w1 => rSubC n d o w1 fun w2 => N ρ w2) := ⟨x_gsubc⟩
instance s_v0 {r : Sl} : Stp (wVar 0 (some d :: r) w Q) (Q d w) := ⟨x_v0⟩
instance s_v1 {o0 : Option PV} {r : Sl} : Stp (wVar 1 (o0 :: some d :: r) w Q) (Q d w) := ⟨x_v1⟩
instance s_v2 {o0 o1 : Option PV} {r : Sl} : Stp (wVar 2 (o0 :: o1 :: some d :: r) w Q) (Q d w) := ⟨x_v2⟩
instance s_v3 {o0 o1 o2 : Option PV} {r : Sl} : Stp (wVar 3 (o0 :: o1 :: o2 :: some d :: r) w Q) (Q d w) := ⟨x_v3⟩
instance s_v4 {o0 o1 o2 o3 : Option PV} {r : Sl} : Stp (wVar 4 (o0 :: o1 :: o2 :: o3 :: some d :: r) w Q) (Q d w) := ⟨x_v4⟩
instance s_v5 {o0 o1 o2 o3 o4 : Option PV} {r : Sl} : Stp (wVar 5 (o0 :: o1 :: o2 :: o3 :: o4 :: some d :: r) w Q) (Q d w) := ⟨x_v5⟩
instance s_v6 {o0 o1 o2 o3 o4 o5 : Option PV} {r : Sl} : Stp (wVar 6 (o0 :: o1 :: o2 :: o3 :: o4 :: o5 :: some d :: r) w Q) (Q d w) := ⟨x_v6⟩
instance s_v7 {o0 o1 o2 o3 o4 o5 o6 : Option PV} {r : Sl} : Stp (wVar 7 (o0 :: o1 :: o2 :: o3 :: o4 :: o5 :: o6 :: some d :: r) w Q) (Q d w) := ⟨x_v7⟩
instance s_v8 {o0 o1 o2 o3 o4 o5 o6 o7 : Option PV} {r : Sl} : Stp (wVar 8 (o0 :: o1 :: o2 :: o3 :: o4 :: o5 :: o6 :: o7 :: some d :: r) w Q) (Q d w) := ⟨x_v8⟩
instance s_v9 {o0 o1 o2 o3 o4 o5 o6 o7 o8 : Option PV} {r : Sl} : Stp (wVar 9 (o0 :: o1 :: o2 :: o3 :: o4 :: o5 :: o6 :: o7 :: o8 :: some d :: r) w Q) (Q d w) := ⟨x_v9⟩
instance s_v10 {o0 o1 o2 o3 o4 o5 o6 o7 o8 o9 : Option PV} {r : Sl} : Stp (wVar 10 (o0 :: o1 :: o2 :: o3 :: o4 :: o5 :: o6 :: o7 :: o8 :: o9 :: some d :: r) w Q) (Q d w) := ⟨x_v10⟩
instance s_v11 {o0 o1 o2 o3 o4 o5 o6 o7 o8 o9 o10 : Option PV} {r : Sl} : Stp (wVar 11 (o0 :: o1 :: o2 :: o3 :: o4 :: o5 :: o6 :: o7 :: o8 :: o9 :: o10 :: some d :: r) w Q) (Q d w) := ⟨x_v11⟩
instance s_v12 {o0 o1 o2 o3 o4 o5 o6 o7 o8 o9 o10 o11 : Option PV} {r : Sl} : Stp (wVar 12 (o0 :: o1 :: o2 :: o3 :: o4 :: o5 :: o6 :: o7 :: o8 :: o9 :: o10 :: o11 :: some d :: r) w Q) (Q d w) := ⟨x_v12⟩
instance s_v13 {o0 o1 o2 o3 o4 o5 o6 o7 o8 o9 o10 o11 o12 : Option PV} {r : Sl} : Stp (wVar 13 (o0 :: o1 :: o2 :: o3 :: o4 :: o5 :: o6 :: o7 :: o8 :: o9 :: o10 :: o11 :: o12 :: some d :: r) w Q) (Q d w) := ⟨x_v13⟩
instance s_v14 {o0 o1 o2 o3 o4 o5 o6 o7 o8 o9 o10 o11 o12 o13 : Option PV} {r : Sl} : Stp (wVar 14 (o0 :: o1 :: o2 :: o3 :: o4 :: o5 :: o6 :: o7 :: o8 :: o9 :: o10 :: o11 :: o12 :: o13 :: some d :: r) w Q) (Q d w) := ⟨x_v14⟩
instance s_v15 {o0 o1 o2 o3 o4 o5 o6 o7 o8 o9 o10 o11 o12 o13 o14 : Option PV} {r : Sl} : Stp (wVar 15 (o0 :: o1 :: o2 :: o3 :: o4 :: o5 :: o6 :: o7 :: o8 :: o9 :: o10 :: o11 :: o12 :: o13 :: o14 :: some d :: r) w Q) (Q d w) := ⟨x_v15⟩
instance s_v16 {o0 o1 o2 o3 o4 o5 o6 o7 o8 o9 o10 o11 o12 o13 o14 o15 : Option PV} {r : Sl} : Stp (wVar 16 (o0 :: o1 :: o2 :: o3 :: o4 :: o5 :: o6 :: o7 :: o8 :: o9 :: o10 :: o11 :: o12 :: o13 :: o14 :: o15 :: some d :: r) w Q) (Q d w) := ⟨x_v16⟩
instance s_v17 {o0 o1 o2 o3 o4 o5 o6 o7 o8 o9 o10 o11 o12 o13 o14 o15 o16 : Option PV} {r : Sl} : Stp (wVar 17 (o0 :: o1 :: o2 :: o3 :: o4 :: o5 :: o6 :: o7 :: o8 :: o9 :: o10 :: o11 :: o12 :: o13 :: o14 :: o15 :: o16 :: some d :: r) w Q) (Q d w) := ⟨x_v17⟩
instance s_v18 {o0 o1 o2 o3 o4 o5 o6 o7 o8 o9 o10 o11 o12 o13 o14 o15 o16 o17 : Option PV} {r : Sl} : Stp (wVar 18 (o0 :: o1 :: o2 :: o3 :: o4 :: o5 :: o6 :: o7 :: o8 :: o9 :: o10 :: o11 :: o12 :: o13 :: o14 :: o15 :: o16 :: o17 :: some d :: r) w Q) (Q d w) := ⟨x_v18⟩
instance s_v19 {o0 o1 o2 o3 o4 o5 o6 o7 o8 o9 o10 o11 o12 o13 o14 o15 o16 o17 o18 : Option PV} {r : Sl} : Stp (wVar 19 (o0 :: o1 :: o2 :: o3 :: o4 :: o5 :: o6 :: o7 :: o8 :: o9 :: o10 :: o11 :: o12 :: o13 :: o14 :: o15 :: o16 :: o17 :: o18 :: some d :: r) w Q) (Q d w) := ⟨x_v19⟩
instance s_v20 {o0 o1 o2 o3 o4 o5 o6 o7 o8 o9 o10 o11 o12 o13 o14 o15 o16 o17 o18 o19 : Option PV} {r : Sl} : Stp (wVar 20 (o0 :: o1 :: o2 :: o3 :: o4 :: o5 :: o6 :: o7 :: o8 :: o9 :: o10 :: o11 :: o12 :: o13 :: o14 :: o15 :: o16 :: o17 :: o18 :: o19 :: some d :: r) w Q) (Q d w) := ⟨x_v20⟩
instance s_v21 {o0 o1 o2 o3 o4 o5 o6 o7 o8 o9 o10 o11 o12 o13 o14 o15 o16 o17 o18 o19 o20 : Option PV} {r : Sl} : Stp (wVar 21 (o0 :: o1 :: o2 :: o3 :: o4 :: o5 :: o6 :: o7 :: o8 :: o9 :: o10 :: o11 :: o12 :: o13 :: o14 :: o15 :: o16 :: o17 :: o18 :: o19 :: o20 :: some d :: r) w Q) (Q d w) := ⟨x_v21⟩
instance s_v22 {o0 o1 o2 o3 o4 o5 o6 o7 o8 o9 o10 o11 o12 o13 o14 o15 o16 o17 o18 o19 o20 o21 : Option PV} {r : Sl} : Stp (wVar 22 (o0 :: o1 :: o2 :: o3 :: o4 :: o5 :: o6 :: o7 :: o8 :: o9 :: o10 :: o11 :: o12 :: o13 :: o14 :: o15 :: o16 :: o17 :: o18 :: o19 :: o20 :: o21 :: some d :: r) w Q) (Q d w) := ⟨x_v22⟩
instance s_v23 {o0 o1 o2 o3 o4 o5 o6 o7 o8 o9 o10 o11 o12 o13 o14 o15 o16 o17 o18 o19 o20 o21 o22 : Option PV} {r : Sl} : Stp (wVar 23 (o0 :: o1 :: o2 :: o3 :: o4 :: o5 :: o6 :: o7 :: o8 :: o9 :: o10 :: o11 :: o12 :: o13 :: o14 :: o15 :: o16 :: o17 :: o18 :: o19 :: o20 :: o21 :: o22 :: some d :: r) w Q) (Q d w) := ⟨x_v23⟩
instance s_v24 {o0 o1 o2 o3 o4 o5 o6 o7 o8 o9 o10 o11 o12 o13 o14 o15 o16 o17 o18 o19 o20 o21 o22 o23 : Option PV} {r : Sl} : Stp (wVar 24 (o0 :: o1 :: o2 :: o3 :: o4 :: o5 :: o6 :: o7 :: o8 :: o9 :: o10 :: o11 :: o12 :: o13 :: o14 :: o15 :: o16 :: o17 :: o18 :: o19 :: o20 :: o21 :: o22 :: o23 :: some d :: r) w Q) (Q d w) := ⟨x_v24⟩
instance s_v25 {o0 o1 o2 o3 o4 o5 o6 o7 o8 o9 o10 o11 o12 o13 o14 o15 o16 o17 o18 o19 o20 o21 o22 o23 o24 : Option PV} {r : Sl} : Stp (wVar 25 (o0 :: o1 :: o2 :: o3 :: o4 :: o5 :: o6 :: o7 :: o8 :: o9 :: o10 :: o11 :: o12 :: o13 :: o14 :: o15 :: o16 :: o17 :: o18 :: o19 :: o20 :: o21 :: o22 :: o23 :: o24 :: some d :: r) w Q) (Q d w) := ⟨x_v25⟩
instance s_c  : Stp (wC d ρ w Q) (Q d w) := ⟨x_c⟩
instance s_op  : Stp (wOp r ta tb ρ w Q) (ta ρ w fun x w1 => tb ρ w1 fun y w2 => r x y w2 Q) := ⟨x_op⟩
instance s_andV  : Stp (wAndV ta tb ρ w Q) (ta ρ w fun x w1 => onB x fun c => if c = true then tb ρ w1 Q else Q (.bl false) w1) := ⟨x_andV⟩
instance s_orV  : Stp (wOrV ta tb ρ w Q) (ta ρ w fun x w1 => onB x fun c => if c = true then Q (.bl true) w1 else tb ρ w1 Q) := ⟨x_orV⟩
instance s_notV  : Stp (wNotV ta ρ w Q) (ta ρ w fun x w1 => onB x fun c => Q (.bl (!c)) w1) := ⟨x_notV⟩
instance s_ifE  : Stp (wIfE tA ta tb ρ w Q) (tA ρ w fun c w1 => if c = true then ta ρ w1 Q else tb ρ w1 Q) := ⟨x_ifE⟩
instance s_neg  : Stp (wNeg ta ρ w Q) (ta ρ w fun x w1 => rNeg x w1 Q) := ⟨x_neg⟩
instance s_rneg  : Stp (rNeg (.int i) w Q) (Q (.int (-i)) w) := ⟨x_rneg⟩
instance s_chain  : Stp (wChain r r' ta tb tc ρ w Q) (ta ρ w fun x w1 => tb ρ w1 fun y w2 => r x y w2 fun z w3 => onB z fun k => if k = true then tc ρ w3 fun u w4 => r' y u w4 Q else Q (.bl false) w3) := ⟨x_chain⟩
instance s_tup  : Stp (wTup TA ρ w Q) (TA ρ w fun xs w1 => xs.length ≤ sizeLine ∧ Q (.tup xs) w1) := ⟨x_tup⟩
instance s_lst  : Stp (wLst TA ρ w Q) (TA ρ w fun xs w1 => xs.length ≤ sizeLine ∧ Q (.lst xs) w1) := ⟨x_lst⟩
instance s_mlst  : Stp (wMLst TA ρ w Q) (TA ρ w fun xs w1 => xs.length ≤ sizeLine ∧ ∀ p, w1 p = none → Q (.ref p) (wset w1 p (.lst xs))) := ⟨x_mlst⟩
instance s_cons {N : List PV → Wd → Prop} : Stp (wCons ta TA ρ w N) (ta ρ w fun x w1 => TA ρ w1 fun xs w2 => N (x :: xs) w2) := ⟨x_cons⟩
instance s_nil {N : List PV → Wd → Prop} : Stp (wNil ρ w N) (N [] w) := ⟨x_nil⟩
instance s_cb  : Stp (wCB rc TA ρ w Q) (TA ρ w fun ds w1 => rc ds w1 Q) := ⟨x_cb⟩
instance s_call  : Stp (wCall p TA ρ w Q) (TA ρ w fun ds w1 => p ds w1 Q) := ⟨x_call⟩
instance s_ixc  : Stp (wIxC n ta ρ w Q) (ta ρ w fun x w1 => rIxC n x w1 Q) := ⟨x_ixc⟩
instance s_rixl  : Stp (rIxC n (.lst ds) w Q) (onAt ds n fun d => Q d w) := ⟨x_rixl⟩
instance s_rixt  : Stp (rIxC n (.tup ds) w Q) (onAt ds n fun d => Q d w) := ⟨x_rixt⟩
instance s_rixz  : Stp (rIxC n (.scr ds) w Q) (onAt ds n fun d => Q d w) := ⟨x_rixz⟩
instance s_at0 {α : Type} {c0 : α} {r : List α} {N : α → Prop} : Stp (onAt (c0 :: r) 0 N) (N c0) := ⟨x_at0⟩
instance s_at1 {α : Type} {c0 c1 : α} {r : List α} {N : α → Prop} : Stp (onAt (c0 :: c1 :: r) 1 N) (N c1) := ⟨x_at1⟩
instance s_at2 {α : Type} {c0 c1 c2 : α} {r : List α} {N : α → Prop} : Stp (onAt (c0 :: c1 :: c2 :: r) 2 N) (N c2) := ⟨x_at2⟩
instance s_at3 {α : Type} {c0 c1 c2 c3 : α} {r : List α} {N : α → Prop} : Stp (onAt (c0 :: c1 :: c2 :: c3 :: r) 3 N) (N c3) := ⟨x_at3⟩
instance s_at4 {α : Type} {c0 c1 c2 c3 c4 : α} {r : List α} {N : α → Prop} : Stp (onAt (c0 :: c1 :: c2 :: c3 :: c4 :: r) 4 N) (N c4) := ⟨x_at4⟩
instance s_at5 {α : Type} {c0 c1 c2 c3 c4 c5 : α} {r : List α} {N : α → Prop} : Stp (onAt (c0 :: c1 :: c2 :: c3 :: c4 :: c5 :: r) 5 N) (N c5) := ⟨x_at5⟩
instance s_at6 {α : Type} {c0 c1 c2 c3 c4 c5 c6 : α} {r : List α} {N : α → Prop} : Stp (onAt (c0 :: c1 :: c2 :: c3 :: c4 :: c5 :: c6 :: r) 6 N) (N c6) := ⟨x_at6⟩
instance s_sl  : Stp (wSl te tl th ρ w Q) (te ρ w fun x w1 => tl ρ w1 fun l w2 => th ρ w2 fun u w3 => rSl l u x w3 Q) := ⟨x_sl⟩
instance s_no {N : Option Int → Wd → Prop} : Stp (wNo ρ w N) (N none w) := ⟨x_no⟩
instance s_part {N : Option Int → Wd → Prop} : Stp (wPart te ρ w N) (te ρ w fun x w1 => onI x fun i => N (some i) w1) := ⟨x_part⟩
instance s_onI {N : Int → Prop} : Stp (onI (.int i) N) (N i) := ⟨x_onI⟩
instance s_onB {N : Bool → Prop} : Stp (onB (.bl b) N) (N b) := ⟨x_onB⟩
instance s_onS {N : Str → Prop} : Stp (onS (.str s) N) (N s) := ⟨x_onS⟩
instance s_sll {l u : Option Int} : Stp (rSl l u (.lst ds) w Q) (Q (.lst (cutD ds l u)) w) := ⟨x_sll⟩
instance s_slz {l u : Option Int} : Stp (rSl l u (.scr ds) w Q) (Q (.lst (cutD ds l u)) w) := ⟨x_slz⟩
instance s_slt {l u : Option Int} : Stp (rSl l u (.tup ds) w Q) (Q (.tup (cutD ds l u)) w) := ⟨x_slt⟩
instance s_lc  : Stp (wLc wi g tA te vs ρ w Q) (wi ρ w fun ds w1 => ds.length < sizeLine ∧ compD g tA te (wipeD ρ vs) (fun acc w2 => Q (.lst acc) w2) ds [] w1) := ⟨x_lc⟩
instance s_seqI {N : List PV → Wd → Prop} : Stp (wSeq te ρ w N) (te ρ w fun x w1 => onSeq x fun ds => N ds w1) := ⟨x_seqI⟩
instance s_sql {N : List PV → Prop} : Stp (onSeq (.lst ds) N) (N ds) := ⟨x_sql⟩
instance s_sqt {N : List PV → Prop} : Stp (onSeq (.tup ds) N) (N ds) := ⟨x_sqt⟩
instance s_sqz {N : List PV → Prop} : Stp (onSeq (.scr ds) N) (N ds) := ⟨x_sqz⟩
instance s_sqs {N : List PV → Prop} : Stp (onSeq (.str s) N) (N (signs s)) := ⟨x_sqs⟩
instance s_rng1 {N : List PV → Wd → Prop} : Stp (wRng1 TA ρ w N) (TA ρ w fun ds w1 => rRng1 ds fun xs => N xs w1) := ⟨x_rng1⟩
instance s_rng2 {N : List PV → Wd → Prop} : Stp (wRng2 TA ρ w N) (TA ρ w fun ds w1 => rRng2 ds fun xs => N xs w1) := ⟨x_rng2⟩
instance s_join  : Stp (wJoin ta te ρ w Q) (ta ρ w fun x w1 => onS x fun a => te ρ w1 fun y w2 => rJoin a y w2 Q) := ⟨x_join⟩
instance s_test {N : Bool → Wd → Prop} : Stp (wTest te ρ w N) (te ρ w fun z w1 => onB z fun b => N b w1) := ⟨x_test⟩
instance s_andT {N : Bool → Wd → Prop} : Stp (wAndT tA tB ρ w N) (tA ρ w fun c w1 => if c = true then tB ρ w1 N else N false w1) := ⟨x_andT⟩
instance s_orT {N : Bool → Wd → Prop} : Stp (wOrT tA tB ρ w N) (tA ρ w fun c w1 => if c = true then N true w1 else tB ρ w1 N) := ⟨x_orT⟩
instance s_notT {N : Bool → Wd → Prop} : Stp (wNotT tA ρ w N) (tA ρ w fun c w1 => N (!c) w1) := ⟨x_notT⟩
instance s_addI  : Stp (dAdd (.int i) (.int j) w Q) (Q (.int (i + j)) w) := ⟨x_addI⟩
instance s_sub  : Stp (dSub (.int i) (.int j) w Q) (Q (.int (i - j)) w) := ⟨x_sub⟩
instance s_eqI  : Stp (dEq (.int i) (.int j) w Q) (Q (.bl (decide (i = j))) w) := ⟨x_eqI⟩
instance s_neI  : Stp (dNe (.int i) (.int j) w Q) (Q (.bl (!decide (i = j))) w) := ⟨x_neI⟩
instance s_eqS  : Stp (dEq (.str s) (.str z) w Q) (Q (.bl (decide (s = z))) w) := ⟨x_eqS⟩
instance s_neS  : Stp (dNe (.str s) (.str z) w Q) (Q (.bl (!decide (s = z))) w) := ⟨x_neS⟩
instance s_eqB {c : Bool} : Stp (dEq (.bl b) (.bl c) w Q) (Q (.bl (b == c)) w) := ⟨x_eqB⟩
instance s_ltI  : Stp (dLt (.int i) (.int j) w Q) (Q (.bl (decide (i < j))) w) := ⟨x_ltI⟩
instance s_leI  : Stp (dLe (.int i) (.int j) w Q) (Q (.bl (decide (i ≤ j))) w) := ⟨x_leI⟩
instance s_gtI  : Stp (dGt (.int i) (.int j) w Q) (Q (.bl (decide (j < i))) w) := ⟨x_gtI⟩
instance s_geI  : Stp (dGe (.int i) (.int j) w Q) (Q (.bl (decide (j ≤ i))) w) := ⟨x_geI⟩
instance s_ltS  : Stp (dLt (.str s) (.str z) w Q) (Q (.bl (decide (s.cps.toList < z.cps.toList))) w) := ⟨x_ltS⟩
instance s_gtS  : Stp (dGt (.str s) (.str z) w Q) (Q (.bl (decide (z.cps.toList < s.cps.toList))) w) := ⟨x_gtS⟩
instance s_isnt  : Stp (dIs false .non .non w Q) (Q (.bl true) w) := ⟨x_isnt⟩
instance s_isB {c : Bool} : Stp (dIs false (.bl b) (.bl c) w Q) (Q (.bl (decide (b = c))) w) := ⟨x_isB⟩
instance s_isnB {c : Bool} : Stp (dIs true (.bl b) (.bl c) w Q) (Q (.bl (!decide (b = c))) w) := ⟨x_isnB⟩
instance s_lenL  : Stp (cLen [.lst ds] w Q) (Q (.int ds.length) w) := ⟨x_lenL⟩
instance s_lenT  : Stp (cLen [.tup ds] w Q) (Q (.int ds.length) w) := ⟨x_lenT⟩
instance s_lenZ  : Stp (cLen [.scr ds] w Q) (Q (.int ds.length) w) := ⟨x_lenZ⟩
instance s_abs  : Stp (cAbs [.int i] w Q) (Q (.int (if i < 0 then -i else i)) w) := ⟨x_abs⟩
instance s_max  : Stp (cMax2 [.int i, .int j] w Q) (Q (.int (if j > i then j else i)) w) := ⟨x_max⟩
instance s_min  : Stp (cMin2 [.int i, .int j] w Q) (Q (.int (if j < i then j else i)) w) := ⟨x_min⟩
instance s_intI  : Stp (cInt [.int i] w Q) (Q (.int i) w) := ⟨x_intI⟩
instance s_intB  : Stp (cInt [.bl b] w Q) (Q (.int (if b then 1 else 0)) w) := ⟨x_intB⟩
instance s_listL  : Stp (cList [.lst ds] w Q) (Q (.lst ds) w) := ⟨x_listL⟩
instance s_listT  : Stp (cList [.tup ds] w Q) (Q (.lst ds) w) := ⟨x_listT⟩
instance s_tupL  : Stp (cTuple [.lst ds] w Q) (Q (.tup ds) w) := ⟨x_tupL⟩
instance s_tupT  : Stp (cTuple [.tup ds] w Q) (Q (.tup ds) w) := ⟨x_tupT⟩
instance s_iTrue  : Stp (if True then A else B) (A) := ⟨x_iTrue⟩
instance s_iFalse  : Stp (if False then A else B) (B) := ⟨x_iFalse⟩
variable {kvs : List (Key × PV)} {tf : WE} {dz : PV} {ni nj nl : Nat}
instance s_getC : Stp (wGetC kvs te tf ρ w Q) (te ρ w fun y w1 => tf ρ w1 fun z w2 => rGetC kvs y z w2 Q) := ⟨x_getC⟩
instance s_rgetS : Stp (rGetC kvs (.str s) dz w Q) (Q ((valP kvs (.inr s)).getD dz) w) := ⟨x_rgetS⟩
instance s_rgetI : Stp (rGetC kvs (.int i) dz w Q) (Q ((valP kvs (.inl i)).getD dz) w) := ⟨x_rgetI⟩
instance s_ixD : Stp (wIxD kvs te ρ w Q) (te ρ w fun y w1 => rIxD kvs y w1 Q) := ⟨x_ixD⟩
instance s_par : Stp (wPar ni nj TA D ρ w) (TA ρ w fun ds w1 => onPar ni nj D ρ ds w1) := ⟨x_par⟩
instance s_par3 : Stp (wPar3 ni nj nl TA D ρ w) (TA ρ w fun ds w1 => onPar3 ni nj nl D ρ ds w1) := ⟨x_par3⟩
instance s_onPar : Stp (onPar ni nj D ρ [x, y] w) (D.nx ((ρ.set ni (some x)).set nj (some y)) w) := ⟨x_onPar⟩
instance s_onPar3 : Stp (onPar3 ni nj nl D ρ [x, y, dz] w) (D.nx (((ρ.set ni (some x)).set nj (some y)).set nl (some dz)) w) := ⟨x_onPar3⟩
end
end Pd

/-! keys that are tuples of any depth: hash, equality, quiet -/
namespace Pd
open PySem L2
noncomputable instance decPV : DecidableEq PV := fun a b => Classical.propDecidable (a = b)
mutual
theorem hk_pl : ∀ {d : PV}, d.hk = true → d.pl = true
  | .non, _ => by simp [PV.pl]
  | .int _, _ => by simp [PV.pl]
  | .str _, _ => by simp [PV.pl]
  | .tup xs, h => by simp only [PV.pl]; exact hks_pls (by simpa [PV.hk] using h)
  | .bl _, h => by simp [PV.hk] at h
  | .lst _, h => by simp [PV.hk] at h
  | .scr _, h => by simp [PV.hk] at h
  | .ref _, h => by simp [PV.hk] at h
  | .ty _, h => by simp [PV.hk] at h
theorem hks_pls : ∀ {ds : List PV}, PV.hks ds = true → PV.pls ds = true
  | [], _ => by simp [PV.pls]
  | d :: r, h => by
    have h' : d.hk = true ∧ PV.hks r = true := by simpa [PV.hks] using h
    simp [PV.pls, hk_pl h'.1, hks_pls h'.2]
end
mutual
theorem eqb_eq : ∀ {x y : PV}, x.hk = true → y.hk = true → PV.eqb x y = true → x = y
  | .non, .non, _, _, _ => rfl
  | .int i, .int j, _, _, h => by simp [PV.eqb] at h; rw [h]
  | .str i, .str j, _, _, h => by simp [PV.eqb] at h; rw [h]
  | .tup xs, .tup ys, h1, h2, h => by
    have e : xs = ys := eqbs_eq (by simpa [PV.hk] using h1) (by simpa [PV.hk] using h2) (by simpa [PV.eqb] using h)
    rw [e]
  | .non, .int _, _, _, h => by simp [PV.eqb] at h
  | .non, .str _, _, _, h => by simp [PV.eqb] at h
  | .non, .tup _, _, _, h => by simp [PV.eqb] at h
  | .int _, .non, _, _, h => by simp [PV.eqb] at h
  | .int _, .str _, _, _, h => by simp [PV.eqb] at h
  | .int _, .tup _, _, _, h => by simp [PV.eqb] at h
  | .str _, .non, _, _, h => by simp [PV.eqb] at h
  | .str _, .int _, _, _, h => by simp [PV.eqb] at h
  | .str _, .tup _, _, _, h => by simp [PV.eqb] at h
  | .tup _, .non, _, _, h => by simp [PV.eqb] at h
  | .tup _, .int _, _, _, h => by simp [PV.eqb] at h
  | .tup _, .str _, _, _, h => by simp [PV.eqb] at h
  | .bl _, _, h, _, _ => by simp [PV.hk] at h
  | .lst _, _, h, _, _ => by simp [PV.hk] at h
  | .scr _, _, h, _, _ => by simp [PV.hk] at h
  | .ref _, _, h, _, _ => by simp [PV.hk] at h
  | .ty _, _, h, _, _ => by simp [PV.hk] at h
  | .tpl _, _, h, _, _ => by simp [PV.hk] at h
  | _, .bl _, _, h, _ => by simp [PV.hk] at h
  | _, .lst _, _, h, _ => by simp [PV.hk] at h
  | _, .scr _, _, h, _ => by simp [PV.hk] at h
  | _, .ref _, _, h, _ => by simp [PV.hk] at h
  | _, .ty _, _, h, _ => by simp [PV.hk] at h
theorem eqbs_eq : ∀ {xs ys : List PV}, PV.hks xs = true → PV.hks ys = true → PV.eqbs xs ys = true → xs = ys
  | [], [], _, _, _ => rfl
  | [], _ :: _, _, _, h => by simp [PV.eqbs] at h
  | _ :: _, [], _, _, h => by simp [PV.eqbs] at h
  | x :: xs, y :: ys, h1, h2, h => by
    have h1' : x.hk = true ∧ PV.hks xs = true := by simpa [PV.hks] using h1
    have h2' : y.hk = true ∧ PV.hks ys = true := by simpa [PV.hks] using h2
    have h' : PV.eqb x y = true ∧ PV.eqbs xs ys = true := by simpa [PV.eqbs] using h
    rw [eqb_eq h1'.1 h2'.1 h'.1, eqbs_eq h1'.2 h2'.2 h'.2]
end
theorem eqb_dec {x y : PV} (h1 : x.hk = true) (h2 : y.hk = true) : PV.eqb x y = decide (x = y) := by
  by_cases e : x = y
  · subst e; rw [decide_eq_true rfl]; exact PV.eqb_refl x (hk_pl h1)
  · rw [decide_eq_false e]
    cases q : PV.eqb x y with
    | false => rfl
    | true => exact (e (eqb_eq h1 h2 q)).elim
/-- how many tokens a hash takes -/
def drw : PV → Nat
  | .tup xs => drws xs + 1
  | _ => 1
where drws : List PV → Nat
  | [] => 0
  | x :: xs => drw x + drws xs
theorem hashs_len (W : World) : ∀ ds : List PV, (pvHashs W ds).length = ds.length
  | [] => rfl
  | d :: r => by simp [pvHashs, hashs_len W r]
section
variable {prog : Program} {w : World} {A : Around} {E : Value → Shared → Prop} {s : Shared}
theorem pyHash_none {Q : Int → Shared → Prop} (h : Q 0xFCA86420 { s with toks := s.toks + 1 }) : wpAny (model prog w) A (pyHash .none) Q E s := by
  unfold pyHash
  have hv : [Value.none].any Value.onHeap = false := rfl
  refine wpAny_bind ?_
  rw [cRoomFor, if_neg (by rw [hv]; exact Bool.false_ne_true)]; refine wpAny_pure ?_
  refine wpAny_bind (wpAny_specialOf (typeIs_none s) F.slot_NoneType_hash.lookup ?_)
  show wpAny _ _ (if (some (Value.builtin "NoneType.__hash__") == some Value.none) = true then _ else _) Q E s
  rw [if_neg (by rw [beq_builtin_none]; exact Bool.false_ne_true)]
  refine wpAny_bind (wpAny_specialOf (typeIs_none s) F.slot_NoneType_hash.lookup ?_)
  show wpAny _ _ (callSpecialIfBoundUnlessNone? .none "__hash__" _ >>= _) Q E s
  refine wpAny_bind (wpAny_callSpecialIfBoundUnlessNone?_slot (typeIs_none s) F.slot_NoneType_hash
    (wpAny_call_entry F.slot_NoneType_hash (typeIs_none s) F.entry_NoneType_hash
      (show wpAny _ _ (do ret (← mkInt 0xFCA86420)) _ _ s from wpAny_ret_mkInt ?_) (F.args_NoneType_hash_1 _)))
  show wpAny _ _ (if (decide (-(2 : Int) ^ 63 ≤ 0xFCA86420) && decide ((0xFCA86420 : Int) < 2 ^ 63)) = true then _ else _) Q E _
  rw [if_pos (by decide)]
  exact wpAny_pure h
theorem rv_tuple {h : Heap} {a : Addr} {us : Array Value} (x : h.IsTuple a us) : ∃ o n, h.get? a = some o ∧ o.cls = .type "tuple" ∧ o.data = .seq us n := by
  obtain ⟨o, h1, h2, n, h3⟩ := x
  exact ⟨o, n, h1, h2, h3⟩
theorem hashs_app (W : World) : ∀ ds es : List PV, pvHashs W (ds ++ es) = pvHashs W ds ++ pvHashs W es
  | [], _ => by simp [pvHashs]
  | d :: r, es => by simp [pvHashs, hashs_app W r es]
theorem drws_app : ∀ ds es : List PV, drw.drws (ds ++ es) = drw.drws ds + drw.drws es
  | [], _ => by simp [drw.drws]
  | d :: r, es => by simp [drw.drws, drws_app r es]; omega
theorem hks_mem : ∀ {ds : List PV}, PV.hks ds = true → ∀ d ∈ ds, d.hk = true
  | [], _, d, hd => by cases hd
  | x :: xs, h, d, hd => by
    have h' : x.hk = true ∧ PV.hks xs = true := by simpa [PV.hks] using h
    rcases List.mem_cons.mp hd with rfl | hd
    · exact h'.1
    · exact hks_mem h'.2 d hd
theorem deps_mem : ∀ {ds : List PV} {d : PV}, d ∈ ds → d.dep ≤ PV.deps ds
  | [], d, hd => by cases hd
  | x :: xs, d, hd => by
    simp only [PV.deps]
    rcases List.mem_cons.mp hd with rfl | hd
    · exact Nat.le_max_left _ _
    · exact Nat.le_trans (deps_mem hd) (Nat.le_max_right _ _)
mutual
theorem pyHash_rv : ∀ (d : PV) (A : Around) (s : Shared) (u : Value) (Q : Int → Shared → Prop) (E : Value → Shared → Prop), d.hk = true → Rv s.heap u d → A.units + d.dep < cLine → Q (pvHash w d) { s with toks := s.toks + drw d } → wpAny (model prog w) A (pyHash u) Q E s
  | .non, A, s, _, Q, E, _, r, _, h => by
    cases r
    exact pyHash_none (by simpa [pvHash, drw] using h)
  | .int i, A, s, _, Q, E, _, r, _, h => by
    cases r
    exact wpAny_pyHash_int (by simpa [pvHash, drw] using h)
  | .str x, A, s, _, Q, E, _, r, _, h => by
    cases r
    exact wpAny_pyHash_str (by simpa [pvHash, drw] using h)
  | .tup ds, A, s, _, Q, E, hk, r, hu, h => by
    cases r with
    | @tup a us _ hl hr =>
      have hks : PV.hks ds = true := by simpa [PV.hk] using hk
      have hu' : A.units + PV.deps ds + 1 < cLine := by simp only [PV.dep] at hu; omega
      have ih := pyHash_rvs ds
      obtain ⟨o, n, ho, hc, hd⟩ := rv_tuple hl
      have hT : s.TypeIs (.ref a) "tuple" := ⟨o, ho, hc⟩
      unfold pyHash
      unfold pyHashByItsType
      refine wpAny_bind (wpAny_cRoomFor_or (.inr (by omega)) ?_)
      refine wpAny_bind (wpAny_specialOf hT F.slot_tuple_hash.lookup ?_)
      show wpAny _ _ (if (some (Value.builtin "tuple.__hash__") == some Value.none) = true then _ else _) Q E s
      rw [if_neg (by rw [beq_builtin_none]; exact Bool.false_ne_true)]
      refine wpAny_bind (wpAny_specialOf hT F.slot_tuple_hash.lookup ?_)
      show wpAny _ _ (callSpecialIfBoundUnlessNone? (.ref a) "__hash__" _ >>= _) Q E s
      refine wpAny_bind (wpAny_callSpecialIfBoundUnlessNone?_slot hT F.slot_tuple_hash (wpAny_call_entry F.slot_tuple_hash hT F.entry_tuple_hash ?_ (F.args_tuple_hash_1 _)))
      show wpAny _ _ (Builtin.Tuple.tupleItemsOf (.ref a) >>= _) _ _ s
      refine wpAny_bind (wpAny_tupleItemsOf ho hd ?_)
      refine wpAny_bind ?_
      rw [← Array.forIn_toList]
      refine wpAny_forIn_list _
        (fun rest (b : Array Int) s' => ∃ done left, ds = done ++ left ∧ RvAll s.heap rest left ∧ b.toList = pvHashs w done ∧ s' = { s with toks := s.toks + drw.drws done })
        _ ?_ ?_ _ _ ⟨[], ds, rfl, by simpa using hr, by simp [pvHashs], by simp [drw.drws]⟩
      · rintro x rest b s' ⟨done, left, e0, hl, hb, rfl⟩
        cases hl with
        | @cons _ _ k ks' h1 hl' =>
          have hm : k ∈ ds := by rw [e0]; simp
          refine wpAny_bind (ih k hm _ { s with toks := s.toks + drw.drws done } x _ _ (hks_mem hks k hm) h1 (by have := deps_mem hm; show A.units + 1 + k.dep < cLine; omega) ?_)
          refine wpAny_pure ⟨done ++ [k], ks', by simp [e0], hl', by simp [hb, hashs_app, pvHashs], by simp [drws_app, drw.drws, Nat.add_assoc]⟩
      · rintro b s' ⟨done, left, e0, hl, hb, rfl⟩
        cases hl
        rw [List.append_nil] at e0
        subst e0
        have h' : Q (reduceHash (Builtin.Tuple.tupleHashOf (pvHashs w ds))) { s with toks := s.toks + (drw.drws ds + 1) } := by simpa [pvHash, drw] using h
        show wpAny _ _ (retInt (Builtin.Tuple.tupleHashOf b.toList)) _ _ _
        rw [hb]
        refine wpAny_ret_mkInt ?_
        show wpAny _ _ (if (decide (-(2 : Int) ^ 63 ≤ Builtin.Tuple.tupleHashOf (pvHashs w ds)) && decide (Builtin.Tuple.tupleHashOf (pvHashs w ds) < 2 ^ 63)) = true then _ else _) Q E _
        unfold reduceHash at h'
        by_cases hr : (decide (-(2 : Int) ^ 63 ≤ Builtin.Tuple.tupleHashOf (pvHashs w ds)) && decide (Builtin.Tuple.tupleHashOf (pvHashs w ds) < 2 ^ 63)) = true
        · rw [if_pos hr]
          rw [if_pos hr] at h'
          exact wpAny_pure (by simpa [Nat.add_assoc] using h')
        · rw [if_neg hr]
          rw [if_neg hr] at h'
          exact wpAny_bind (wpAny_rule (wpAny_pure (by simpa [Nat.add_assoc] using h')))
  | .bl _, _, _, _, _, _, h, _, _, _ => by simp [PV.hk] at h
  | .lst _, _, _, _, _, _, h, _, _, _ => by simp [PV.hk] at h
  | .scr _, _, _, _, _, _, h, _, _, _ => by simp [PV.hk] at h
  | .ref _, _, _, _, _, _, h, _, _, _ => by simp [PV.hk] at h
  | .ty _, _, _, _, _, _, h, _, _, _ => by simp [PV.hk] at h
  | .tpl _, _, _, _, _, _, h, _, _, _ => by simp [PV.hk] at h
theorem pyHash_rvs : ∀ (ds : List PV) (d : PV), d ∈ ds → ∀ (A : Around) (s : Shared) (u : Value) (Q : Int → Shared → Prop) (E : Value → Shared → Prop), d.hk = true → Rv s.heap u d → A.units + d.dep < cLine → Q (pvHash w d) { s with toks := s.toks + drw d } → wpAny (model prog w) A (pyHash u) Q E s
  | [], d, hd => nomatch hd
  | x :: xs, d, hd => by
    by_cases e : d = x
    · rw [e]; exact pyHash_rv x
    · exact pyHash_rvs xs d (by rcases List.mem_cons.mp hd with q | q; exact (e q).elim; exact q)
end
mutual
theorem quiet_rv : ∀ (d : PV) (n : Nat) (A : Around) (s : Shared) (u : Value) (Q : Bool → Shared → Prop) (E : Value → Shared → Prop), d.hk = true → Rv s.heap u d → d.dep ≤ n → Q true s → wpAny (model prog w) A (eqIsQuiet n u) Q E s
  | .non, n, A, s, _, Q, E, _, r, _, h => by
    cases r
    rw [eqIsQuiet_byValue n rfl]; exact wpAny_pure h
  | .int i, n, A, s, _, Q, E, _, r, _, h => by
    cases r
    rw [eqIsQuiet_byValue n rfl]; exact wpAny_pure h
  | .str x, n, A, s, _, Q, E, _, r, _, h => by
    cases r
    rw [eqIsQuiet_byValue n rfl]; exact wpAny_pure h
  | .tup ds, n, A, s, _, Q, E, hk, r, hu, h => by
    cases r with
    | @tup a us _ hl hr =>
      have hks : PV.hks ds = true := by simpa [PV.hk] using hk
      have ih := quiet_rvs ds
      obtain ⟨o, m, ho, hc, hd⟩ := rv_tuple hl
      have hT : s.TypeIs (.ref a) "tuple" := ⟨o, ho, hc⟩
      obtain ⟨n, rfl⟩ : ∃ k, n = k + 1 := ⟨n - 1, by simp only [PV.dep] at hu; omega⟩
      have hu' : PV.deps ds ≤ n := by simp only [PV.dep] at hu; omega
      unfold eqIsQuiet
      refine wpAny_bind (wpAny_specialOf hT F.slot_tuple_eq.lookup ?_)
      show wpAny _ _ (isInstance (.ref a) (.type "tuple") >>= _) _ _ s
      refine wpAny_bind (wpAny_isInstance hT isSubtype_tuple_tuple ?_)
      simp only [Bool.not_true, Bool.false_eq_true, if_false]
      refine wpAny_bind (wpAny_seqItems ho hd ?_)
      refine wpAny_bind ?_
      show wpAny _ _ (forIn _ _ _) _ _ s
      rw [← Array.forIn_toList]
      refine wpAny_forIn_list _ (fun rest r s' => r.1 = none ∧ s' = s ∧ ∃ left, (∀ d ∈ left, d ∈ ds) ∧ RvAll s.heap rest left) _ ?_ ?_ _ _ ⟨rfl, rfl, ds, fun _ h => h, by simpa using hr⟩
      · rintro v rest r s' ⟨hr0, rfl, left, hm, hl⟩
        cases hl with
        | @cons _ _ k ks' h1 hl' =>
          have hkm := hm k (List.mem_cons_self ..)
          refine wpAny_bind (ih k hkm n _ _ v _ _ (hks_mem hks k hkm) h1 (by have := deps_mem hkm; omega) ?_)
          simp only [Bool.not_true, Bool.false_eq_true, if_false]
          exact wpAny_pure ⟨rfl, rfl, ks', fun d hd => hm d (List.mem_cons_of_mem _ hd), hl'⟩
      · rintro ⟨r1, r2⟩ s' ⟨hr0, rfl, _⟩
        simp only at hr0
        subst hr0
        exact wpAny_pure h
  | .bl _, _, _, _, _, _, _, h, _, _, _ => by simp [PV.hk] at h
  | .lst _, _, _, _, _, _, _, h, _, _, _ => by simp [PV.hk] at h
  | .scr _, _, _, _, _, _, _, h, _, _, _ => by simp [PV.hk] at h
  | .ref _, _, _, _, _, _, _, h, _, _, _ => by simp [PV.hk] at h
  | .ty _, _, _, _, _, _, _, h, _, _, _ => by simp [PV.hk] at h
  | .tpl _, _, _, _, _, _, _, h, _, _, _ => by simp [PV.hk] at h
theorem quiet_rvs : ∀ (ds : List PV) (d : PV), d ∈ ds → ∀ (n : Nat) (A : Around) (s : Shared) (u : Value) (Q : Bool → Shared → Prop) (E : Value → Shared → Prop), d.hk = true → Rv s.heap u d → d.dep ≤ n → Q true s → wpAny (model prog w) A (eqIsQuiet n u) Q E s
  | [], d, hd => nomatch hd
  | x :: xs, d, hd => by
    by_cases e : d = x
    · rw [e]; exact quiet_rv x
    · exact quiet_rvs xs d (by rcases List.mem_cons.mp hd with q | q; exact (e q).elim; exact q)
end
mutual
theorem Rv.keeps {h h' : Heap} {c : Addr} {o : Obj} {es ep} (ho : h.get? c = some o) (hd : o.data = .dict es ep) (hs : Heap.SameBut c h h') : ∀ {u : Value} {d : PV}, d.hk = true → Rv h u d → Rv h' u d
  | _, _, _, .non => .non
  | _, _, _, .bl b => .bl b
  | _, _, _, .int i t => .int i t
  | _, _, _, .str x t => .str x t
  | _, .tup ds, hk, .tup (a := a) hl hr => by
    obtain ⟨o', n, h1, h2, h3⟩ := rv_tuple hl
    have ne : a ≠ c := by
      rintro rfl
      obtain rfl : o' = o := Option.some.inj (h1.symm.trans ho)
      rw [hd] at h3; exact nomatch h3
    exact .tup ⟨o', (hs.2 a ne).trans h1, h2, n, h3⟩ (RvAll.keeps ho hd hs (by simpa [PV.hk] using hk) hr)
  | _, _, hk, .lst _ _ => by simp [PV.hk] at hk
theorem RvAll.keeps {h h' : Heap} {c : Addr} {o : Obj} {es ep} (ho : h.get? c = some o) (hd : o.data = .dict es ep) (hs : Heap.SameBut c h h') : ∀ {us : List Value} {ds : List PV}, PV.hks ds = true → RvAll h us ds → RvAll h' us ds
  | _, _, _, .nil => .nil
  | _, _ :: _, hk, .cons r rr => by
    have hk' := hk
    simp only [PV.hks, Bool.and_eq_true] at hk'
    exact .cons (Rv.keeps ho hd hs hk'.1 r) (RvAll.keeps ho hd hs hk'.2 rr)
end
end
noncomputable def pvKind (prog : Program) (w : World) : HeapKind prog w PV where
  is := fun h k a => k.hk = true ∧ k.dep ≤ 8 ∧ Rv h (.ref a) k
  hash := pvHash w
  draws := drw
  room := fun A => A.units + 64 < cLine
  inj := fun hx hy => Rv.uniq hx.2.2 hy.2.2
  keeps := fun x ho hd hs => ⟨x.1, x.2.1, Rv.keeps ho hd hs x.1 x.2.2⟩
  pyHash := fun hu hk h => pyHash_rv _ _ _ _ _ _ hk.1 hk.2.2 (by have := hk.2.1; omega) h
  eqBool := fun {A E s x y a b Q} hu hx hy h => by
    have z := eqAt_rv x y A s (.ref a) (.ref b) hx.2.2 hy.2.2 (hk_pl hx.1) (hk_pl hy.1) (by have := Nat.min_le_left x.dep y.dep; have := hx.2.1; omega)
    rw [eqb_dec hx.1 hy.1] at z
    exact z _ _ _ _ h
  quiet := fun hk h => quiet_rv _ _ _ _ _ _ _ hk.1 hk.2.2 hk.2.1 h
end Pd

/-! dicts with deep keys as data; a list that is frozen, a comprehension that makes a list which may change -/
namespace Pd
open PySem L2
/-! ### tables -/
section
variable {κ β : Type} [DecidableEq κ]
def putP (kvs : List (κ × β)) (k : κ) (v : β) : List (κ × β) := if (kvs.any fun x => decide (x.1 = k)) = true then kvs.map (fun x => if x.1 = k then (x.1, v) else x) else kvs ++ [(k, v)]
def getP (kvs : List (κ × β)) (k : κ) : Option β := (kvs.find? fun x => decide (x.1 = k)).map (·.2)
end
theorem pv_obj {P : Program} {W : World} {H : Hp} {h : Heap} {a : Addr} {xs : List (PV × Addr × Value)} (D : PvDict W a xs h) : ObjOk P W H h a (.ext (PvDict W a xs)) := by
  obtain ⟨d1, d2, o, es, ep, ho, r⟩ := id D
  exact ⟨D, ⟨o, ho⟩, fun h1 h2 ⟨q1, q2, o', es', ep', ho', r'⟩ k => ⟨q1, q2, o', es', ep', k _ ho', r'⟩⟩
section
variable {X : Cx} {pos : Pos}
/-- {} -/
theorem pe_dnewP : PE X (.Dict [] [] pos) (fun _ H Q => ∀ p, H p = none → Q (.ref p) (upd H p (.ext (PvDict X.w p [])))) := ⟨fun pins s σ H Q I h =>
  wpAny_Dict_empty ⟨.ref s.heap.objs.size, _, I.laid (a := s.heap.objs.size) (o := .ext (PvDict X.w s.heap.objs.size [])) (t' := s.toks) (fun _ _ q => Heap.get?_push_of_some _ q) (Nat.le_refl _)
    (pv_obj ⟨beq_eq_false_iff_ne.mpr (Ne.symm (Nat.ne_of_lt I.big)), Nat.zero_le _, _, #[], 0, Heap.get?_push_size _ rfl, ⟨rfl, rfl, rfl⟩, rfl, rfl, List.nodup_nil⟩), rfl, h _ (I.hok.fresh (Nat.le_refl _))⟩⟩
def wDNewP : WE := fun _ w Q => ∀ p, w p = none → Q (.ref p) (wset w p (.dcp []))
/-- a new thing that may change -/
theorem post_new {K : Kz} {w : Wd} {H : Hp} {Q : WQ} {m : MO} {o : HO} {p : Addr} (k : Wk K w H) (hp : H p = none) (new : ∀ e : Ext w H (wset w p m) (upd H p o), MOk K (wset w p m) (upd H p o) p m) (q : Q (.ref p) (wset w p m)) : Post K w H Q (.ref p) (upd H p o) := by
  have e : Ext w H (wset w p m) (upd H p o) := ⟨fun b u h1 h2 => by
    have q : b ≠ p := ne_of_none h2 hp
    exact ⟨by rw [wset_ne q]; exact h1, by rw [upd_ne q]; exact h2⟩, fun b kvs h _ => by
    obtain ⟨u, h2⟩ := (k.at_ b _ h).there
    have q : b ≠ p := ne_of_none h2 hp
    exact ⟨by rw [wset_ne q]; exact h, by rw [upd_ne q]⟩⟩
  refine ⟨.ref p, _, e, ⟨fun a x h => ?_, fun b z => ?_⟩, .ref p, q⟩
  rotate_left
  · obtain ⟨h1, u, h2⟩ := k.zin b z
    exact ⟨(e b u h1 h2).1, u, (e b u h1 h2).2⟩
  by_cases ha : a = p
  · subst ha
    rw [wset_same] at h
    cases h
    exact new e
  · rw [wset_ne ha] at h
    have hh : upd H p o a = H a := upd_ne ha
    cases k.at_ a x h with
    | lst h1 h2 => exact .lst (hh.trans h1) (h2.ext e)
    | dct h1 h2 => exact .dct (hh.trans h1) (h2.ext e)
    | lcl h1 h2 => exact .lcl (hh.trans h1) (h2.ext e)
    | dcl h1 h2 => exact .dcl (hh.trans h1) (h2.ext e)
    | dcp h1 h2 => exact .dcp (hh.trans h1) (KpOk.ext e h2)
    | ins h1 h2 => exact .ins (hh.trans h1) (h2.ext e)
    | tab h1 h2 => exact .tab (hh.trans h1) (h2.ext e)
theorem de_dnewP : DE X (.Dict [] [] pos) wDNewP :=
  pe_le pe_dnewP fun σ H Q ⟨Z, ρ, w, Q', r, h, k⟩ => fun p hp => k _ _ (post_new r.wk hp (fun _ => .dcp upd_same .nil) (h p (r.wk.off hp)))
def wDNewK : WE := fun _ w Q => ∀ p, w p = none → Q (.ref p) (wset w p (.dct []))
theorem de_dnewK : DE X (.Dict [] [] pos) wDNewK :=
  pe_le pe_dnewK fun σ H Q ⟨Z, ρ, w, Q', r, h, k⟩ => fun p hp => k _ _ (post_new r.wk hp (fun _ => .dct upd_same .nil) (h p (r.wk.off hp)))
/-! what the machine says of the keys -/
abbrev pKey (k : PV) : Prop := k.hk = true ∧ k.dep ≤ 8
theorem pv_dictH {pins : List (Addr × Obj)} {σ : St} {H : Hp} {s : Shared} {Z : Addr → Prop} {w : Wd} {a : Addr} {xs : List (PV × Addr × Value)} {ds : List (PV × PV)} (I : Inv X pins σ H s) (h : H a = some (.ext (PvDict X.w a xs))) (kp : KpOk ⟨fw X, Z⟩ w H xs ds) :
    (a == sysModules) = false ∧ xs.length ≤ sizeLine ∧ s.heap.DictOfH (pvKind X.prog X.w) a xs := by
  obtain ⟨⟨d1, d2, o, es, ep, ho, hx, hd, he, hn⟩, _, _⟩ := (show ObjOk X.prog X.w H s.heap a (.ext (PvDict X.w a xs)) from I.hok a _ h)
  refine ⟨d1, d2, o, es, ep, ho, hx, hd, he, ?_, hn⟩
  have all : ∀ {l : List (PV × Addr × Value)} {m : List (PV × PV)}, KpOk ⟨fw X, Z⟩ w H l m → ∀ x ∈ l, (pvKind X.prog X.w).is s.heap x.1 x.2.1 := by
    intro l m q
    induction q with
    | nil => intro x hx; exact nomatch hx
    | @cons p q ps qs hq t ih =>
      intro x hx
      rcases List.mem_cons.mp hx with e | hx
      · subst e
        rw [hq.1]
        exact ⟨hq.2.2.1.1, hq.2.2.1.2, hq.2.1.rv I rfl (hk_pl hq.2.2.1.1)⟩
      · exact ih x hx
  exact all kp
theorem kp_len {K : Kz} {w : Wd} {H : Hp} {xs : List (PV × Addr × Value)} {ds : List (PV × PV)} (h : KpOk K w H xs ds) : xs.length = ds.length := Paired.length h
theorem kp_at {K : Kz} {w : Wd} {H : Hp} {xs : List (PV × Addr × Value)} {ds : List (PV × PV)} (h : KpOk K w H xs ds) (k : PV) : (atKey xs k = none ∧ getP ds k = none) ∨ ∃ p d v, atKey xs k = some p ∧ getP ds k = some d ∧ RelV v p.2 ∧ Dn K w H v d := by
  induction h with
  | nil => exact .inl ⟨rfl, rfl⟩
  | @cons x y xs ys hx t ih =>
    by_cases e : x.1 = k
    · have e' : y.1 = k := hx.1.symm.trans e
      obtain ⟨v, h1, h2⟩ := hx.2.2.2
      exact .inr ⟨x.2, y.2, v, by simp [atKey, List.find?_cons, e], by simp [getP, List.find?_cons, e'], h1, h2⟩
    · have e' : ¬ y.1 = k := fun z => e (hx.1.trans z)
      have b1 : atKey (x :: xs) k = atKey xs k := by simp [atKey, List.find?_cons, e]
      have b2 : getP (y :: ys) k = getP ys k := by simp [getP, List.find?_cons, e']
      rw [b1, b2]; exact ih
theorem getP_any {κ β : Type} [DecidableEq κ] (k : κ) : ∀ kvs : List (κ × β), (kvs.any fun x => decide (x.1 = k)) = (getP kvs k).isSome
  | [] => rfl
  | p :: r => by
    rw [List.any_cons]
    by_cases e : p.1 = k
    · simp [getP, List.find?_cons, e]
    · have b : getP (p :: r) k = getP r k := by simp [getP, List.find?_cons, e]
      rw [b, decide_eq_false e, Bool.false_or]; exact getP_any k r
theorem kp_put {K : Kz} {w : Wd} {H : Hp} {xs : List (PV × Addr × Value)} {ds : List (PV × PV)} (h : KpOk K w H xs ds) {k : PV} {b : Addr} {v : V} {u : Value} {d : PV} (nk : Dn K w H (.ref b) k) (pk : pKey k) (ru : RelV v u) (nv : Dn K w H v d) :
    KpOk K w H (storedH xs k b u) (putP ds k d) := by
  unfold storedH putP
  rw [getP_any]
  rcases kp_at h k with ⟨h1, h2⟩ | ⟨p, d0, v0, h1, h2, _⟩
  · rw [h1, h2]
    exact Paired.snoc h ⟨rfl, nk, pk, v, ru, nv⟩
  · rw [h1, h2]
    simp only [Option.isSome_some, if_true]
    clear h1 h2
    induction h with
    | nil => exact .nil
    | @cons x y xs ys hx t ih =>
      rw [List.map_cons, List.map_cons]
      refine .cons ?_ ih
      unfold putAt
      by_cases e : x.1 = k
      · rw [if_pos e, if_pos (hx.1.symm.trans e)]
        exact ⟨hx.1, hx.2.1, hx.2.2.1, v, ru, nv⟩
      · rw [if_neg e, if_neg (fun z => e (hx.1.trans z))]
        exact hx
/-- d[k] = v by values -/
def rSetPv (K : Fw) : V → V → V → Hp → (Hp → Prop) → Prop := fun o i v H Q => ∃ Z w a b k xs ds, o = .ref a ∧ i = .ref b ∧ H a = some (.ext (PvDict K.W a xs)) ∧ KpOk ⟨K, Z⟩ w H xs ds ∧ Dn ⟨K, Z⟩ w H (.ref b) k ∧ pKey k ∧ xs.length < sizeLine ∧ ∀ u, RelV v u → Q (upd H a (.ext (PvDict K.W a (storedH xs k b u))))
theorem storedH_len (xs : List (PV × Addr × Value)) (k : PV) (b : Addr) (u : Value) : (storedH xs k b u).length ≤ xs.length + 1 := by
  unfold storedH
  split
  · rw [List.length_map]; omega
  · rw [List.length_append, List.length_cons, List.length_nil]; omega
theorem set_pv (hu : X.A.units + 70 < cLine) : PSet X (rSetPv (fw X)) := by
  intro pins s σ H o i v ov iv u Q I ro ri rv h
  obtain ⟨Z, w, a, b, k, xs, ds, rfl, rfl, ha, kp, nk, pk, hl, q⟩ := h
  cases ro
  cases ri
  obtain ⟨d1, d2, dd⟩ := pv_dictH I ha kp
  refine wpAny_setItem_heap (hsz := d2) (knd := pvKind X.prog X.w) (by show X.A.units + 1 + 64 < cLine; omega) ⟨pk.1, pk.2, nk.rv I rfl (hk_pl pk.1)⟩ dd fun h' dd' hs => ⟨_, ?_, q u rv⟩
  obtain ⟨o, es, ep, ho, hx, hd, he, _, hn⟩ := dd'
  exact d_write I (by rw [ha]; exact True.intro) hs ⟨o, ho⟩ (pv_obj ⟨d1, by have := storedH_len xs k b u; omega, o, es, ep, ho, hx, hd, he, hn⟩)
/-- d[k] = v of a dict with ints and texts for keys -/
theorem set_dk (hu : X.A.units + 70 < cLine) : PSet X (fun o i v H Q => ∃ a kvs k, o = .ref a ∧ i = kV k ∧ H a = some (.dK kvs) ∧ kvs.length < sizeLine ∧ Q (upd H a (.dK (putK kvs k v)))) := by
  intro pins s σ H o i v ov iv u Q I ro ri rv h
  obtain ⟨a, kvs, k, rfl, rfl, ha, hl, q⟩ := h
  cases ro
  exact d_setItem (by omega) I (DPut.k ha hl) ri rv fun s' I' => ⟨_, I', q⟩
theorem pset_or {r r' : TSet} (h : PSet X r) (h' : PSet X r') : PSet X (fun o i v H Q => r o i v H Q ∨ r' o i v H Q) := by
  intro pins s σ H o i v ov iv u Q I ro ri rv q
  rcases q with q | q
  · exact h pins s σ H o i v ov iv u Q I ro ri rv q
  · exact h' pins s σ H o i v ov iv u Q I ro ri rv q
/-- data that are keys of a plain dict -/
def keyOf : PV → Option Key
  | .int i => some (.inl i)
  | .str z => some (.inr z)
  | _ => none
theorem keyOf_v {K : Kz} {w : Wd} {H : Hp} {v : V} {d : PV} {k : Key} (n : Dn K w H v d) (h : keyOf d = some k) : v = kV k := by
  cases n <;> simp [keyOf] at h
  · subst h; rfl
  · subst h; rfl
theorem kv_put {K : Kz} {w : Wd} {H : Hp} {xs : List (Key × V)} {ds : List (Key × PV)} (h : KvOk K w H xs ds) {k : Key} {v : V} {d : PV} (n : Dn K w H v d) : KvOk K w H (putK xs k v) (putP ds k d) := by
  have e : (xs.any fun kv => decide (kv.1 = k)) = (ds.any fun x => decide (x.1 = k)) := by
    unfold KvOk at h
    induction h with
    | nil => rfl
    | cons h t ih => rw [List.any_cons, List.any_cons, ih, h.1]
  unfold putK putP
  rw [e]
  split
  · rename_i hz
    unfold KvOk at h ⊢
    clear e hz
    induction h with
    | nil => exact .nil
    | @cons p q ps qs h t ih =>
      rw [List.map_cons, List.map_cons]
      refine .cons ?_ ih
      by_cases e : p.1 = k
      · rw [if_pos e, if_pos (h.1.symm.trans e)]; exact ⟨h.1, n⟩
      · rw [if_neg e, if_neg (fun z => e (h.1.trans z))]; exact h
  · exact Paired.snoc h ⟨rfl, n⟩
theorem kv_len {K : Kz} {w : Wd} {H : Hp} {κ : Type} {xs : List (κ × V)} {ds : List (κ × PV)} (h : KvOk K w H xs ds) : xs.length = ds.length := Paired.length h
/-- o[i] = d: of a list, of a dict -/
def rSubX (d o i : PV) (w2 : Wd) (Q : Wd → Prop) : Prop := match o with
  | .ref a => match w2 a with
    | some (.lst ds) => match i with
      | .int k => ∃ j, ixN ds.length k = some j ∧ Q (wset w2 a (.lst (ds.set j d)))
      | _ => False
    | some (.dct kvs) => match keyOf i with
      | some k => kvs.length < sizeLine ∧ Q (wset w2 a (.dct (putP kvs k d)))
      | none => False
    | some (.dcp kvs) => match i with
      | .tup es => pKey (.tup es) ∧ kvs.length < sizeLine ∧ Q (wset w2 a (.dcp (putP kvs (.tup es) d)))
      | _ => False
    | _ => False
  | _ => False
def wgSubX (to ti : WE) : WG := fun d ρ w Q => to ρ w fun o w1 => ti ρ w1 fun i w2 => rSubX d o i w2 fun w3 => Q ρ w3
theorem dg_subx {o i : Expr} {to ti : WE} (hu : X.A.units + 70 < cLine) (ho : DE X o to) (hi : DE X i ti)
    (ha : ∀ v, assign (.Subscript o i pos) X.env v = (do
      let ov ← holding [v] (eval o X.env)
      let iv ← holding [v, ov] (eval i X.env)
      standAt pos
      holding [v, ov, iv] (setItem ov iv v)
      release [v, ov, iv] []) := by intro _; rfl) : DG X (.Subscript o i pos) (wgSubX to ti) :=
  pg_le (pg_sub ho hi (pset_or set_list (pset_or (set_dk hu) (set_pv hu))) ha) fun v σ H Q ⟨Z, ρ, w, d, Q', r, n, h, k⟩ => up1 r h fun ov H1 od w1 e1 r1 n1 h1 => up1 r1 h1 fun iv H2 id' w2 e2 r2 n2 h2 => by
    have nv := (n.ext e1).ext e2
    have n1' := n1.ext e2
    unfold rSubX at h2
    split at h2
    · rename_i a
      cases n1'
      split at h2
      · rename_i ds e
        split at h2
        · obtain ⟨j, hj, q⟩ := h2
          cases n2
          cases r2.wk.at_ _ _ e with
          | @lst xs _ h3 h4 =>
            have ep : Ext w2 H2 (wset w2 _ (.lst (ds.set j d))) (upd H2 _ (.lst (xs.set j v))) := Ext.put e
            refine .inl ⟨_, _, _, j, rfl, rfl, h3, by rw [h4.length]; exact hj, k _ _ _ _ (e1.trans (e2.trans ep)) (r2.ext ep ?_) q⟩
            exact r2.wk.put e (.lst upd_same ((DnAll.set nv j h4).ext ep))
        · exact h2.elim
      · rename_i kvs e
        split at h2
        · rename_i kk hk
          obtain ⟨hl, q⟩ := h2
          cases keyOf_v n2 hk
          cases r2.wk.at_ _ _ e with
          | @dct xs _ h3 h4 =>
            have ep : Ext w2 H2 (wset w2 a (.dct (putP kvs kk d))) (upd H2 a (.dK (putK xs kk v))) := Ext.put e
            refine .inr (.inl ⟨_, _, kk, rfl, rfl, h3, by rw [kv_len h4]; exact hl, k _ _ _ _ (e1.trans (e2.trans ep)) (r2.ext ep ?_) q⟩)
            exact r2.wk.put e (.dct upd_same ((kv_put h4 nv).ext ep))
        · exact h2.elim
      · rename_i kvs e
        split at h2
        · rename_i es
          obtain ⟨pk, hl, q⟩ := h2
          cases n2 with
          | @tup b ys _ hT hA =>
            cases r2.wk.at_ _ _ e with
            | @dcp xs _ h3 h4 =>
              refine .inr (.inr ⟨Z, w2, a, b, _, xs, kvs, rfl, rfl, h3, h4, .tup hT hA, pk, by rw [kp_len h4]; exact hl, fun u ru => ?_⟩)
              have ep : Ext w2 H2 (wset w2 a (.dcp (putP kvs (.tup es) d))) (upd H2 a (.ext (PvDict X.w a (storedH xs (.tup es) b u)))) := Ext.put e
              refine k _ _ _ _ (e1.trans (e2.trans ep)) (r2.ext ep ?_) q
              exact r2.wk.put e (.dcp upd_same (KpOk.ext ep (kp_put h4 (.tup hT hA) pk ru nv)))
        · exact h2.elim
      · exact h2.elim
    · exact h2.elim
/-! list(d) -/
theorem call_list_pv (hc : X.calm = true) : CallR X (.type "list") (fun vs H Q => ∃ Z w d xs ds, vs = [.ref d] ∧ H d = some (.ext (PvDict X.w d xs)) ∧ KpOk ⟨fw X, Z⟩ w H xs ds ∧ ∀ p, H p = none → Q (.ref p) (upd H p (.lst (xs.map fun x => V.ref x.2.1)))) := by
  intro pins s σ H vs us Q I r h
  obtain ⟨Z, w, d, xs, ds, rfl, hd, kp, q⟩ := h
  obtain ⟨u, rfl, rx⟩ := r.one
  cases rx
  obtain ⟨d1, d2, o, es, ep, ho, hx, hdt, he, _, hn⟩ := pv_dictH I hd kp
  have l1 : es.size = xs.length := size_of_entries he
  refine PySem.W.kdl_call (kdl_raw d1 hx hdt) (I.ok.hd hc) ho (by omega) fun h' tk acc c kp' e it => ?_
  have ea : acc.toList = xs.map fun x => Value.ref x.2.1 := by
    have hl : acc.toList.length = xs.length := by rw [Array.length_toList, it.1]; exact l1
    apply List.ext_getElem?
    intro j
    rw [List.getElem?_map]
    by_cases hj : j < xs.length
    · have hja : j < acc.toList.length := by omega
      obtain ⟨en, hen, hv⟩ := it.2 j acc.toList[j] (by rw [← Array.getElem?_toList]; exact List.getElem?_eq_getElem hja)
      have qe := entry_at he j
      rw [hen, List.getElem?_eq_getElem hj] at qe
      have e2 := Option.some.inj qe
      rw [List.getElem?_eq_getElem hja, List.getElem?_eq_getElem hj, hv, e2]; rfl
    · rw [List.getElem?_eq_none (by omega), List.getElem?_eq_none (by omega)]; rfl
  have rv : Vals (xs.map fun x => V.ref x.2.1) acc.toList := by
    rw [ea, show (xs.map fun x => V.ref x.2.1) = (xs.map fun x => x.2.1).map V.ref by rw [List.map_map]; rfl, show (xs.map fun x => Value.ref x.2.1) = (xs.map fun x => x.2.1).map Value.ref by rw [List.map_map]; rfl]
    exact vals_refs _
  refine ⟨.ref s.heap.objs.size, _, I.laid (t' := tk) (o := .lst (xs.map fun x => V.ref x.2.1)) kp' (Nat.le_refl _) ?_, rfl, q _ (I.hok.fresh (Nat.le_refl _))⟩
  exact ⟨by rw [List.length_map]; exact d2, acc.toList, c, rv, by rw [Array.toArray_toList]; exact e⟩
def kD : Key → PV
  | .inl i => .int i
  | .inr z => .str z
/-- list(x): of a list, a tuple, a dict -/
def cListX : RcD := fun ds w Q => match ds with
  | [.ref a] => match w a with
    | some (.dcp kvs) => Q (.lst (kvs.map (·.1))) w
    | some (.dct kvs) => Q (.lst (kvs.map fun x => kD x.1)) w
    | some (.lst es) => Q (.lst es) w
    | _ => False
  | [.lst es] => Q (.lst es) w
  | [.tup es] => Q (.lst es) w
  | [.scr es] => Q (.lst es) w
  | _ => False
theorem kp_keys {K : Kz} {w : Wd} {H : Hp} {xs : List (PV × Addr × Value)} {ds : List (PV × PV)} (h : KpOk K w H xs ds) : DnAll K w H (xs.map fun x => V.ref x.2.1) (ds.map (·.1)) := by
  induction h with
  | nil => exact .nil
  | cons h t ih => exact .cons h.2.1 ih
theorem kv_keys {K : Kz} {w : Wd} {H : Hp} {xs : List (Key × V)} {ds : List (Key × PV)} (h : KvOk K w H xs ds) : DnAll K w H (xs.map fun x => kV x.1) (ds.map fun x => kD x.1) := by
  unfold KvOk at h
  induction h with
  | nil => exact .nil
  | @cons p q ps qs h t ih =>
    refine .cons ?_ ih
    show Dn K w H (kV p.1) (kD q.1)
    rw [h.1]
    cases q.1 with
    | inl i => exact .int i
    | inr z => exact .str z
theorem ca_listX (hc : X.calm = true) : CaD X (.type "list") cListX := by
  obtain ⟨r0, g1, g2⟩ := (ca_list (X := X)).ex
  refine ⟨_, g1.or ((call_list_pv hc).or (call_list_dK hc)), fun Z xs H ds w Q' Q k n h kq => ?_⟩
  unfold cListX at h
  split at h
  · rename_i a
    split at h
    · rename_i kvs e
      obtain ⟨v, rfl, n1⟩ := dall1 n
      cases n1
      cases k.at_ _ _ e with
      | @dcp ys _ h3 h4 => exact .inr (.inl ⟨Z, w, a, ys, kvs, rfl, h3, h4, fun p hp => kq _ _ (post_lst k hp (kp_keys h4) h)⟩)
    · rename_i kvs e
      obtain ⟨v, rfl, n1⟩ := dall1 n
      cases n1
      cases k.at_ _ _ e with
      | @dct ys _ h3 h4 => exact .inr (.inr ⟨a, ys, rfl, h3, fun p hp => kq _ _ (post_lst k hp (kv_keys h4) h)⟩)
    · rename_i es e
      exact .inl (g2 Z xs H _ w Q' Q k n (by show cList [.ref a] w Q'; unfold cList seqOf vw; simp only [e]; exact h) kq)
    · exact h.elim
  · exact .inl (g2 Z xs H _ w Q' Q k n h kq)
  · exact .inl (g2 Z xs H _ w Q' Q k n h kq)
  · exact .inl (g2 Z xs H _ w Q' Q k n h kq)
  · exact h.elim
/-! ### a list is frozen: it stands for data from then on -/
def onFrz (d : PV) (w : Wd) (Q : WQ) : Prop := match d with
  | .ref a => match w a with
    | some (.lst ds) => Q (.lst ds) (wdel w a)
    | _ => False
  | d => Q d w
def wFrz (t : WE) : WE := fun ρ w Q => t ρ w fun d w1 => onFrz d w1 Q
theorem wdel_none {w : Wd} {a b : Addr} (h : w b = none) : wdel w a b = none := by unfold wdel; split; rw [h]; rfl; exact h
theorem wdel_some {w : Wd} {a b : Addr} {m : MO} (h : wdel w a b = some m) : w b = some m := by
  unfold wdel at h
  split at h
  · cases e : w b with
    | none => rw [e] at h; cases h
    | some x =>
      rw [e] at h
      simp only [keepL] at h
      split at h
      · exact h
      · cases h
  · exact h
theorem Ext.del {w : Wd} {H : Hp} (a : Addr) : Ext w H (wdel w a) H := ⟨fun b o h1 h2 => ⟨wdel_none h1, h2⟩, fun b kvs h l => ⟨by unfold wdel; rw [h]; simp [keepL, l], rfl⟩⟩
theorem Wk.del {K : Kz} {w : Wd} {H : Hp} (k : Wk K w H) (a : Addr) : Wk K (wdel w a) H := by
  refine ⟨fun b m h => ?_, fun b z => ⟨wdel_none (k.zin b z).1, (k.zin b z).2⟩⟩
  have hb : w b = some m := wdel_some h
  have e := Ext.del (w := w) (H := H) a
  cases k.at_ b m hb with
  | lst h1 h2 => exact .lst h1 (h2.ext e)
  | dct h1 h2 => exact .dct h1 (h2.ext e)
  | lcl h1 h2 => exact .lcl h1 (h2.ext e)
  | dcl h1 h2 => exact .dcl h1 (h2.ext e)
  | dcp h1 h2 => exact .dcp h1 (KpOk.ext e h2)
  | ins h1 h2 => exact .ins h1 (h2.ext e)
  | tab h1 h2 => exact .tab h1 (h2.ext e)
theorem de_frz {e : Expr} {te : WE} (h : DE X e te) : DE X e (wFrz te) :=
  pe_le h fun σ H Q ⟨Z, ρ, w, Q', r, h, k⟩ => up1 r h fun x H1 d w1 e1 r1 n h1 => by
    cases n with
    | ref a =>
      simp only [onFrz] at h1
      split at h1
      · rename_i ds e
        cases r1.wk.at_ _ _ e with
        | lst h3 h4 =>
          have hz : ¬ Z a := fun z => by
            have q := (r1.wk.zin a z).1
            rw [e] at q; cases q
          exact k _ _ ⟨.lst ds, wdel w1 a, e1.trans (Ext.del a), r1.wk.del a, .lst ⟨by unfold wdel; rw [if_pos rfl, e]; rfl, hz, h3⟩ (h4.ext (Ext.del a)), h1⟩
      · exact h1.elim
    | _ => exact k _ _ (post_trans e1 (post_same r1.wk (by constructor <;> assumption) h1))
end
end Pd

/-! a comprehension that makes a list which may change -/
namespace Pd
open PySem L2
section
variable {K : Fw} {Z : Addr → Prop} {w : Wd} {H : Hp} {D : Addr} {m : MO}
theorem ne_hid {a : Addr} (h : ¬ zAdd Z D a) : ¬ Z a ∧ a ≠ D := ⟨fun z => h (.inl z), fun z => h (.inr z)⟩
mutual
theorem Dn.thaw : ∀ {v : V} {d : PV}, Dn ⟨K, zAdd Z D⟩ w H v d → Dn ⟨K, Z⟩ (wset w D m) H v d
  | _, _, .non => .non
  | _, _, .bl b => .bl b
  | _, _, .int i => .int i
  | _, _, .str x => .str x
  | _, _, .ref a => .ref a
  | _, _, .ty n => .ty n
  | _, _, .tup h r => .tup (by
      rcases h with ⟨h1, h2, h3⟩ | h
      · exact .inl ⟨by rw [wset_ne (ne_hid h2).2]; exact h1, (ne_hid h2).1, h3⟩
      · exact .inr h) (DnAll.thaw r)
  | _, _, .tpl h r => .tpl (by
      obtain ⟨h1, h2, o, h3, h4⟩ := h
      exact ⟨by rw [wset_ne (ne_hid h2).2]; exact h1, (ne_hid h2).1, o, h3, h4⟩) (DnAll.thaw r)
  | _, _, .lst h r => .lst ⟨by rw [wset_ne (ne_hid h.2.1).2]; exact h.1, (ne_hid h.2.1).1, h.2.2⟩ (DnAll.thaw r)
  | _, _, .scr h r => .scr (by
      rcases h with ⟨h1, h2, h3⟩ | h
      · exact .inl ⟨by rw [wset_ne (ne_hid h2).2]; exact h1, (ne_hid h2).1, h3⟩
      · exact .inr h) (DnAll.thaw r)
theorem DnAll.thaw : ∀ {vs : List V} {ds : List PV}, DnAll ⟨K, zAdd Z D⟩ w H vs ds → DnAll ⟨K, Z⟩ (wset w D m) H vs ds
  | _, _, .nil => .nil
  | _, _, .cons h r => .cons (Dn.thaw h) (DnAll.thaw r)
end
theorem wk_thaw {acc : List PV} {accV : List V} (k : Wk ⟨K, zAdd Z D⟩ w H) (hZ : ¬ Z D) (hH : H D = some (.lst accV)) (hn : DnAll ⟨K, zAdd Z D⟩ w H accV acc) : Wk ⟨K, Z⟩ (wset w D (.lst acc)) H := by
  refine ⟨fun a x h => ?_, fun b z => ?_⟩
  · by_cases ha : a = D
    · subst ha
      rw [wset_same] at h
      cases h
      exact .lst hH hn.thaw
    · rw [wset_ne ha] at h
      cases k.at_ a x h with
      | lst h1 h2 => exact .lst h1 h2.thaw
      | dct h1 h2 => exact .dct h1 (Paired.mapP h2 fun _ _ q => ⟨q.1, q.2.thaw⟩)
      | lcl h1 h2 => exact .lcl h1 h2.thaw
      | dcl h1 h2 => exact .dcl h1 (Paired.mapP h2 fun _ _ q => ⟨q.1, q.2.thaw⟩)
      | dcp h1 h2 => exact .dcp h1 (Paired.mapP h2 fun _ _ q => ⟨q.1, q.2.1.thaw, q.2.2.1, by obtain ⟨v, q1, q2⟩ := q.2.2.2; exact ⟨v, q1, q2.thaw⟩⟩)
      | ins h1 h2 => exact .ins h1 (Paired.mapP h2 fun _ _ q => ⟨q.1, q.2.thaw⟩)
      | tab h1 h2 => exact .tab h1 ⟨h2.tr, fun pos cv hc => by
          obtain ⟨c, e1, e2, e3, e4⟩ := h2.at_ pos cv hc
          exact ⟨c, e1, e2, by rw [wset_ne (fun q => e4 (.inr q))]; exact e3, fun q => e4 (.inl q)⟩⟩
  · have q := k.zin b (.inl z)
    have nb : b ≠ D := fun e => hZ (by rw [← e]; exact z)
    exact ⟨by rw [wset_ne nb]; exact q.1, q.2⟩
end
def wLcM (wi : WI) (g : WG) (tt : WT) (te : WE) (vs : List Nat) : WE := fun ρ w Q => wi ρ w fun ds w1 => ds.length < sizeLine ∧ compD g tt te (wipeD ρ vs) (fun acc w2 => ∀ p, w2 p = none → Q (.ref p) (wset w2 p (.lst acc))) ds [] w1
theorem lcM_up {K : Fw} {wi : WI} {g : WG} {tt : WT} {te : WE} {vs : List Nat} {σ : St} {H : Hp} {Q : VK} (h : upE K (wLcM wi g tt te vs) σ H Q) : tLc (upI K wi) (upGw K vs g) (upT K tt) (upE K te) vs σ H Q := by
  obtain ⟨Z, ρ, w, Q', r, h, k⟩ := h
  refine ⟨Z, ρ, w, _, r, h, fun J H1 ds w1 e1 k1 itd h1 => ?_⟩
  obtain ⟨hsz, h1⟩ := h1
  intro D hD
  have zx : Zx ⟨K, Z⟩ H1 (zAdd Z D) := fun b q => q.elim .inl fun e => .inr (by rw [e]; exact hD)
  have zD : (⟨K, zAdd Z D⟩ : Kz).Z D := .inr rfl
  have rp1 : Rep ⟨K, Z⟩ ρ w1 σ H1 := r.ext e1 k1
  have hDw : w1 D = none := k1.off hD
  refine ⟨fun i m H' => m = ds.length - i ∧ i ≤ ds.length ∧ ∃ acc accV w', Ext w1 H1 w' H' ∧ Wk ⟨K, zAdd Z D⟩ w' H' ∧ H' D = some (.lst accV) ∧ DnAll ⟨K, zAdd Z D⟩ w' H' accV acc ∧ acc.length ≤ i ∧ compD g tt te (wipeD ρ vs) (fun acc w2 => ∀ p, w2 p = none → Q' (.ref p) (wset w2 p (.lst acc))) (ds.drop i) acc w',
    ⟨_, rfl, Nat.zero_le _, [], [], w1, Ext.new k1 hD, k1.hid hD, upd_same, .nil, Nat.le_refl _, h1⟩, ?_⟩
  rintro i m H' ⟨rfl, hi, acc, accV, w', e', k', hH, hn, hl, hc⟩
  by_cases hlt : i < ds.length
  · refine .inr ⟨itd.go i w' H' e' hlt, fun H2 => ∃ acc accV w2, Ext w1 H1 w2 H2 ∧ Wk ⟨K, zAdd Z D⟩ w2 H2 ∧ H2 D = some (.lst accV) ∧ DnAll ⟨K, zAdd Z D⟩ w2 H2 accV acc ∧ acc.length ≤ i + 1 ∧ compD g tt te (wipeD ρ vs) (fun acc w2 => ∀ p, w2 p = none → Q' (.ref p) (wset w2 p (.lst acc))) (ds.drop (i + 1)) acc w2, ?_, ?_⟩
    · rintro H2 ⟨acc2, accV2, w2, z⟩
      exact ⟨ds.length - (i + 1), by omega, rfl, hlt, acc2, accV2, w2, z⟩
    · intro x H'' hy
      obtain ⟨d, hd, e3, k3, n3⟩ := itd.yld i w' H' x H'' (zAdd Z D) e' zx k' hlt hy
      have hdrop : ds.drop i = d :: ds.drop (i + 1) := by
        rw [List.drop_eq_getElem_cons hlt]
        rw [List.getElem?_eq_getElem hlt] at hd
        rw [Option.some.inj hd]
      rw [hdrop, compD] at hc
      have e13 := e'.trans e3
      have rp3 : Rep ⟨K, zAdd Z D⟩ (wipeD ρ vs) w' (L2.wipe σ vs) H'' :=
        ⟨by rw [wipeD_length, wipe_length]; exact r.len, fun j d' hj => by
          obtain ⟨q1, q2⟩ := wipeD_some hj
          obtain ⟨v, q3, q4⟩ := rp1.sl j d' q1
          exact ⟨v, by rw [wipe_out q2]; exact q3, (q4.hide zx).ext e13⟩, k3⟩
      refine ⟨zAdd Z D, wipeD ρ vs, w', d, _, rp3, n3, hc, fun σ4 H4 ρ4 w4 e4 r4 q4 h4 => ⟨q4.trans wipe_wipe, ?_⟩⟩
      refine upT1 r4 h4 fun b H5 w5 e5 r5 h5 => ?_
      have hDD : w' D = none := (k'.zin D zD).1
      cases b with
      | false =>
        refine iteF ⟨acc, accV, w5, e13.trans (e4.trans e5), r5.wk, ?_, hn.ext (e3.trans (e4.trans e5)), by omega, by simpa using h5⟩
        exact ((e3.trans (e4.trans e5)) D _ hDD hH).2
      | true =>
        refine iteT (up1 r5 (by simpa using h5) fun y H6 dy w6 e6 r6 n6 h6 => ?_)
        have e36 := e3.trans (e4.trans (e5.trans e6))
        refine ⟨accV, (e36 D _ hDD hH).2, by rw [hn.length]; omega, ?_⟩
        refine ⟨acc ++ [dy], accV ++ [y], w6, ?_, r6.wk.upd zD, upd_same, (hn.ext e36).append (.cons n6 .nil) |>.upd zD, by simp; omega, h6⟩
        have e16 := e'.trans e36
        exact Ext.updN k1 e16 hD
  · have hz : i = ds.length := by omega
    subst hz
    rw [List.drop_length, compD] at hc
    have hD0 := (k'.zin D zD).1
    have e2 : Ext w1 H1 (wset w' D (.lst acc)) H' := Ext.setN k1 e' hD
    refine .inl ⟨itd.stop w' H' e', k _ _ ⟨.ref D, wset w' D (.lst acc), e1.trans e2, ?_, .ref D, hc D hD0⟩⟩
    exact wk_thaw k' (k1.nz hD) hH hn
section
variable {X : Cx} {tg it elt : Expr} {te : WE} {pos : Pos}
theorem de_lcM {ifs : List Expr} {scope : Scope} {own : List (Str × Nat)} {wi : WI} {g : WG} {tt : WT} (hc : X.calm = true) (hN : X.N.Nodup) (hi : DI X tg it wi) (ok : BlkOk X.N X.env.scope scope own)
    (hg : ∀ (s : Shared) (H : Hp) (C : Addr) (cl : List (Str × Addr)) (fp : List Addr), DGw (X.blk s H scope (compEnvC scope cl C X.env) fp) (own.map (·.2)) tg g) (ht : ∀ (s : Shared) (H : Hp) (C : Addr) (cl : List (Str × Addr)) (fp : List Addr), DTs (X.blk s H scope (compEnvC scope cl C X.env) fp) ifs tt)
    (he : ∀ (s : Shared) (H : Hp) (C : Addr) (cl : List (Str × Addr)) (fp : List Addr), DE (X.blk s H scope (compEnvC scope cl C X.env) fp) elt te) (hs : ∀ x, foldedSetIterable it X.env x = pure x := by intro _; rfl) :
    DE X (.ListComp elt [⟨tg, it, ifs, 0⟩] scope pos) (wLcM wi g tt te (own.map (·.2))) :=
  pe_le (pe_lc hc hN hi ok hg ht he hs) fun _ _ _ h => lcM_up h
theorem ds_setLcM {i : Nat} {y : Str} {py spos : Pos} {ifs : List Expr} {scope : Scope} {own : List (Str × Nat)} {wi : WI} {g : WG} {tt : WT} (hc : X.calm = true) (hN : X.N.Nodup) (hy : X.N[i]? = some y) (hyl : X.env.scope.names.lookup y = some .local)
    (hsw : swapsWith (.ListComp elt [⟨tg, it, ifs, 0⟩] scope pos) (some (.Name y py)) spos.line X.env = pure true) (hi : DI X tg it wi) (ok : BlkOk X.N X.env.scope scope own)
    (hg : ∀ (s : Shared) (H : Hp) (C : Addr) (cl : List (Str × Addr)) (fp : List Addr), DGw (X.blk s H scope (compEnvC scope cl C X.env) fp) (own.map (·.2)) tg g) (ht : ∀ (s : Shared) (H : Hp) (C : Addr) (cl : List (Str × Addr)) (fp : List Addr), DTs (X.blk s H scope (compEnvC scope cl C X.env) fp) ifs tt)
    (he : ∀ (s : Shared) (H : Hp) (C : Addr) (cl : List (Str × Addr)) (fp : List Addr), DE (X.blk s H scope (compEnvC scope cl C X.env) fp) elt te) (hs : ∀ x, foldedSetIterable it X.env x = pure x := by intro _; rfl) :
    DS X (.Assign [.Name y py] (.ListComp elt [⟨tg, it, ifs, 0⟩] scope pos) spos) (wAsg (wLcM wi g tt te (own.map (·.2))) (wName i)) :=
  ps_le (ps_setLc hc hN hy hyl hsw hi ok hg ht he hs) fun D σ H ⟨Z, ρ, w, E, r, h, k⟩ => lcM_up ⟨Z, ρ, w, _, r, h, fun v H1 ⟨d, w1, e1, k1, n, h1⟩ => k.nx _ _ _ _ e1 ((r.ext e1 k1).set n i) h1⟩
end
end Pd

/-! sorted(set(xs)) of a list of ints -/
namespace Pd
open PySem L2 PyProof.Rows
/-- a set that has nothing yet -/
abbrev sOb (w : World) : Obj := { cls := .type "set", dict := none, data := .set #[] 0 (.fresh 0 0 (!w.params.followText "set-order")) }
abbrev sHp (w : World) (h : Heap) : Heap := h.push (sOb w)
section
variable {P : Program} {w : World} {A : Around} {E : Value → Shared → Prop} {s : Shared}
theorem call_setL {l : Addr} {its : Array Value} (ns : List Int) {Q : Value → Shared → Prop} (hh : A.handled = none) (hl : s.heap.IsList l its) (hit : IntsAre its.toList ns) (hb : ns.length + 1 < scanBound)
    (k : ∀ (h' : Heap) (tk c : Nat), SetR w h' s.heap.objs.size (fun j => decide (j ∈ ns)) c → c ≤ ns.length → (∀ b o, s.heap.get? b = some o → h'.get? b = some o) → Q (.ref s.heap.objs.size) { s with heap := h', toks := tk }) :
    wpAny (model P w) A (call (.type "set") [.ref l]) Q E s := by
  have hz : its.size = ns.length := by have q := IntsAre.length hit; rw [Array.length_toList] at q; exact q
  obtain ⟨_, _, hmro⟩ := F.called_set.mro
  have m1 := F.called_set.made
  have m2 := F.called_set.sub
  refine wpAny_call (codeAny_of_tree ?_)
  show wpAny _ _ (callAny (Value.type "set") _) _ _ s
  refine wpAny_pure ⟨Code.quiet_builtin _ (by decide +kernel), codeAny_builtin F.entry_type_call ?_⟩
  rw [Around.under_plain (weight_type_call_type "set" [.ref l] []) rfl]
  have m3 := F.called_set.notType
  have m4 := F.called_set.canCreate
  have m5 := F.typeCall_set_1 (.ref l)
  repeat (any_goals (first | assumption | wp_step))
  refine codeAny_mono (code_set_led1 (.ref l) (E := E) (Q₁ := fun b u => b = .ref s.heap.objs.size ∧ u = { s with heap := sHp w s.heap }) ⟨rfl, rfl⟩) fun r u hr => ?_
  cases r with
  | error e => exact hr
  | ok f =>
    cases f with
    | ret b =>
      obtain ⟨rfl, rfl⟩ := hr
      have g0 : (sHp w s.heap).get? s.heap.objs.size = some (sOb w) := Heap.get?_push_size _ rfl
      have g1 : Shared.TypeIs { s with heap := sHp w s.heap } (.ref s.heap.objs.size) "set" := ⟨_, g0, rfl⟩
      have m6 := F.called_set.init.lookup
      have m7 := F.called_set.init.bind (.ref s.heap.objs.size)
      repeat (any_goals (first | assumption | wp_step))
      refine codeAny_mono (codeAny_call_builtin (R := wants (fun r u => r = .none ∧ ∃ h' tk c, u = { s with heap := h', toks := tk } ∧ SetR w h' s.heap.objs.size (fun j => decide (j ∈ ns)) c ∧ c ≤ ns.length ∧ ∀ b o, s.heap.get? b = some o → h'.get? b = some o) E)
        F.called_set.init.plain F.entry_set_init (check_set_init_1 g1 ?_)) fun r2 u2 hr2 => ?_
      · obtain ⟨⟨oc, od, odt, osl⟩, h0, h1, nl, h2⟩ := hl
        simp only at h1 h2
        subst h1 h2
        have h3 : (sHp w s.heap).get? l = some ⟨.type "list", od, .seq its nl, osl⟩ := Heap.get?_push_of_some _ h0
        have m8 := F.sub_list_set
        have m9 := F.sub_list_frozenset
        have ma : (Value.type "list" == Value.type "dict") = false := by decide
        have hl1 : (sHp w s.heap).IsList l its := ⟨_, h3, rfl, nl, rfl⟩
        unfold Builtin.«set.__init__» noKeywords Builtin.Frozenset.updateFrom
        generalize hPI : pyIter = PI
        wp_walk
        subst hPI
        refine wpAny_pyIter_list hl1 ?_
        refine wpAny_bind (wpAny_runValue ?_)
        have lt : l < s.heap.objs.size := Heap.lt_size h0
        have sz : (sHp w s.heap).objs.size = s.heap.objs.size + 1 := Heap.size_push ..
        have ne : l ≠ (sHp w s.heap).objs.size := by rw [sz]; exact Nat.ne_of_lt (Nat.lt_succ_of_lt lt)
        have nf : s.heap.objs.size ∉ [(sHp w s.heap).objs.size, l] := by
          rw [sz]; simp only [List.mem_cons, List.not_mem_nil, or_false, not_or]
          exact ⟨Nat.ne_of_lt (Nat.lt_succ_self _), Nat.ne_of_gt lt⟩
        have hv : ∀ (i : Nat) (v : Value), its[i]? = some v → ∃ k t, ns[i]? = some k ∧ v = .int k t := fun i v hv => by
          have hi : i < ns.length := by rw [← hz]; exact (Array.getElem?_eq_some_iff.mp hv).1
          obtain ⟨t, e⟩ := IntsAre.int_at hit i v (by rw [Array.getElem?_toList]; exact hv)
          exact ⟨ns[i], t, List.getElem?_eq_getElem hi, by rw [e, List.getD_eq_getElem?_getD, List.getElem?_eq_getElem hi]; rfl⟩
        refine set_update_ints ((Walks.list (by simp [hh]) _ l ne its).toS) _ nf ns hz hb hv (its.size - 0) 0 _ (by omega) (Nat.zero_le _) ⟨⟨_, Heap.get?_push_size _ rfl, rfl, rfl⟩, hl1.push _⟩ ⟨0, Nat.le_refl 0, setR_new_at (Heap.get?_push_of_some _ g0)⟩ ?_
        intro u c hm hc hS
        obtain ⟨h', g2, d2, t2, o2⟩ := u
        obtain rfl : g2 = s.gens := hm.gens
        obtain rfl : d2 = s.drawn := hm.drawn
        obtain rfl : o2 = s.os := hm.os
        show wpAny _ _ _ _ _ _
        refine wpAny_pure ?_
        show wpAny _ _ (ret Value.none) _ _ _
        rw [hz] at hc
        refine wpAny_pure ⟨rfl, h', t2, c, rfl, hS, hc, fun b o e => ?_⟩
        have lb : b < s.heap.objs.size := Heap.lt_size e
        exact hm.heap b o (by rw [sz]; simp only [List.mem_cons, List.not_mem_nil, or_false, not_or]; exact ⟨Nat.ne_of_lt lb, Nat.ne_of_lt (Nat.lt_succ_of_lt lb)⟩) (Heap.get?_push_of_some _ (Heap.get?_push_of_some _ e))
      · cases r2 with
        | error e => exact hr2
        | ok f2 =>
          cases f2 with
          | ret r =>
            obtain ⟨rfl, h', tk, c, rfl, q1, q2, q3⟩ := hr2
            repeat (any_goals (first | assumption | wp_step))
            exact k _ _ _ q1 q2 q3
          | _ => exact hr2.elim
    | _ => exact hr.elim
end
theorem nodup_le {α : Type} [DecidableEq α] : ∀ {l m : List α}, l.Nodup → (∀ x ∈ l, x ∈ m) → l.length ≤ m.length
  | [], _, _, _ => Nat.zero_le _
  | x :: r, m, hn, hm => by
    have hx := hm x (List.mem_cons_self ..)
    rw [List.nodup_cons] at hn
    have z := nodup_le (l := r) (m := m.erase x) hn.2 fun y hy => by
      have ne : y ≠ x := fun e => hn.1 (e ▸ hy)
      exact (List.mem_erase_of_ne ne).mpr (hm y (List.mem_cons_of_mem _ hy))
    rw [List.length_erase_of_mem hx] at z
    have : 0 < m.length := List.length_pos_of_mem hx
    simp only [List.length_cons]; omega
/-- set(xs) of a list of ints -/
def rSetOfL (K : Fw) : List V → Hp → VK → Prop := fun vs H Q => ∃ (l : Addr) (ns : List Int), vs = [.ref l] ∧ SqL K.F H l (ns.map V.int) ∧ ns.length ≤ 4000 ∧ ∀ p c, H p = none → (∀ m : List Int, (∀ k ∈ ns, k ∈ m) → c ≤ m.length) → Q (.ref p) (upd H p (SetO K.W p (fun j => decide (j ∈ ns)) c))
section
variable {X : Cx}
theorem cr_setL (hc : X.calm = true) : CallR X (.type "set") (rSetOfL (fw X)) := by
  intro pins s σ H vs us Q I r h
  obtain ⟨l, ns, rfl, hl, h4, q⟩ := h
  rw [Vals.ref1 r]
  obtain ⟨its, ri, pl, hz⟩ := I.list hl
  refine call_setL ns (I.ok.hd hc) pl.isList (by simpa using intsAre_v ri) (by unfold scanBound; omega) fun h' tk c hS hcn hk => ?_
  refine ⟨.ref _, _, I.laid (t' := tk) hk (Nat.le_refl _) (setO_new hS), rfl, q _ c (I.hok.fresh (Nat.le_refl _)) fun m hm => ?_⟩
  obtain ⟨o, es, ep, t, _, _, _, _, hn, hk, _, _, hs, _⟩ := hS
  have z := nodup_le hn (m := m) fun x hx => hm x (by simpa using (hk x).mpr hx)
  rw [List.length_map, Array.length_toList, hs] at z
  exact z
where
  intsAre_v : ∀ {ns : List Int} {us : List Value}, Vals (ns.map V.int) us → IntsAre us ns
  | [], _, .nil => .nil
  | n :: ns, _, .cons r t => by
    obtain ⟨k, rfl⟩ := r
    exact .cons n k (intsAre_v t)
end
end Pd

/-! sorted(set(xs)) over data -/
namespace Pd
open PySem L2
def intsOf : List PV → Option (List Int)
  | [] => some []
  | .int i :: r => (intsOf r).map (i :: ·)
  | _ => none
theorem intsOf_map : ∀ ns : List Int, intsOf (ns.map PV.int) = some ns
  | [] => rfl
  | n :: r => by simp [intsOf, intsOf_map r]
theorem intsOf_eq : ∀ {ds : List PV} {ns : List Int}, intsOf ds = some ns → ds = ns.map PV.int
  | [], _, h => by cases h; rfl
  | .int i :: r, ns, h => by
    cases e : intsOf r with
    | none => simp [intsOf, e] at h
    | some ms =>
      have h' : i :: ms = ns := by simpa [intsOf, e] using h
      subst h'
      rw [intsOf_eq e]; rfl
  | .non :: _, _, h => by simp [intsOf] at h
  | .bl _ :: _, _, h => by simp [intsOf] at h
  | .str _ :: _, _, h => by simp [intsOf] at h
  | .tup _ :: _, _, h => by simp [intsOf] at h
  | .lst _ :: _, _, h => by simp [intsOf] at h
  | .scr _ :: _, _, h => by simp [intsOf] at h
  | .ref _ :: _, _, h => by simp [intsOf] at h
  | .ty _ :: _, _, h => by simp [intsOf] at h
theorem dn_ints_eq {K : Kz} {w : Wd} {H : Hp} : ∀ {ns : List Int} {vs : List V}, DnAll K w H vs (ns.map PV.int) → vs = ns.map V.int
  | [], _, .nil => rfl
  | n :: r, _, .cons h t => by cases h; rw [dn_ints_eq t]; rfl
/-- rising, without doubles -/
def rSortSet (x : PV) (w : Wd) (Q : WQ) : Prop := ∃ ns m : List Int, x = .lst (ns.map PV.int) ∧ ns.length ≤ 4000 ∧ (∀ k ∈ ns, k ∈ m) ∧ m.length ≤ 63 ∧ ∀ ms : List Int, ms.Pairwise (· < ·) → (∀ k, k ∈ ms ↔ k ∈ ns) → Q (.lst (ms.map PV.int)) w
def wSortSet (te : WE) : WE := fun ρ w Q => te ρ w fun x w1 => rSortSet x w1 Q
section
variable {X : Cx} {a : Expr} {ta : WE} {p p2 q pos : Pos}
theorem de_sortSet (hc : X.calm = true) (hg : Gl X "sorted") (hm : X.mg "sorted" = none) (hg2 : Gl X "set") (hm2 : X.mg "set" = none) (he : DE X a ta) (hs : starEach [a] X.env = (false, eval a X.env) :: starEach [] X.env := by rfl)
    (hs2 : starEach [.Call (.Name "set" p2) [a] [] q] X.env = (false, eval (.Call (.Name "set" p2) [a] [] q) X.env) :: starEach [] X.env := by rfl) : DE X (.Call (.Name "sorted" p) [.Call (.Name "set" p2) [a] [] q] [] pos) (wSortSet ta) := by
  have h1 := pe_callTy (p := p2) (pos := q) (cr_setL hc) hg2 hm2 (by decide +kernel) (pa_cons he pa_nil hs) (he := hs)
  have h2 := pe_callB (p := p) (pos := pos) (cr_sortedSet hc) hg hm (by decide +kernel) (pa_cons h1 pa_nil hs2) (he := hs2)
  refine pe_le h2 fun σ H Q ⟨Z, ρ, w, Q', r, h, k⟩ => ?_
  refine up1 r h fun x H1 d w1 e1 r1 n h1 => ?_
  obtain ⟨ns, m, rfl, hl, hm, hml, hq⟩ := h1
  cases n with
  | @lst l xs _ hL hA =>
    cases dn_ints_eq hA
    refine ⟨l, ns, rfl, hL.sq, by omega, fun p c hp hcn => ?_⟩
    refine ⟨p, _, c, rfl, upd_same, by have := hcn m hm; omega, fun ms b m1 m2 m3 hb => ?_⟩
    have kw := r1.wk.new (o := SetO X.w p (fun j => decide (j ∈ ns)) c) hp
    refine k _ _ (post_trans (e1.trans (Ext.new r1.wk hp)) (post_lst kw hb (dn_ints ms) (hq ms m1 fun z => ?_)))
    rw [m2 z]; exact decide_eq_true_iff
end
end Pd

/-! tuple(reversed(t)) of a tuple -/
namespace Pd
open PySem L2 PyProof.Rows RT
abbrev nL (h : Heap) : Heap := h.push { cls := .type "list", data := .seq ([] : List Value).toArray }
theorem nolen_rv : typeLookup (.type "reversed") "__len__" = pure none := by rw [typeLookup_type, builtinLookup_eq_fast]; kernel_rfl
theorem hint_rv : typeLookup (.type "reversed") "__length_hint__" = pure (some (.builtin "reversed.__length_hint__")) := by rw [typeLookup_type, builtinLookup_eq_fast]; kernel_rfl
theorem slot_rt_hint : Slot "reversed" "__length_hint__" "reversed.__length_hint__" :=
  .of (owner := "reversed") (n := "__length_hint__") (by rw [typeLookup_type, builtinLookup_eq_fast]; kernel_rfl) (by decide +kernel) (by decide +kernel) (by decide +kernel) (by first | exact .inl (by decide +kernel) | exact .inr (by decide +kernel)) (by rw [isSubtype_type]; kernel_rfl)
theorem entry_rt_hint : entryFor table "reversed.__length_hint__" = some Builtin.«reversed.__length_hint__» := entryFor_of_tree (by kernel_rfl)
theorem args_rt_hint (a : Value) : argsOk "reversed.__length_hint__" ⟨[a], []⟩ := by
  unfold argsOk; rw [signature?_of (id := "reversed.__length_hint__") (n := "__length_hint__".toList.reverse) (o := ['d', 'e', 's', 'r', 'e', 'v', 'e', 'r']) (by kernel_rfl) owner_rt]; kernel_rfl
section
variable {prog : Program} {w : World} {A : Around} {E : Value → Shared → Prop} {s : Shared} {it t : Addr} {its : Array Value}
theorem tup_push {h : Heap} (x : IsTup h t its) (k : ∀ o, h.get? t = some o → h'.get? t = some o) : IsTup h' t its := by
  obtain ⟨o, h1, r⟩ := x
  exact ⟨o, k o h1, r⟩
theorem walks_rt (hh : A.handled = none) (hne : t ≠ it) (hn : its.size ≤ sizeLine) :
    Walks prog w A it [it, t] [it] its.size (fun i v => its[its.size - 1 - i]? = some v) (fun i h => i ≤ its.size ∧ IsRt h it t ((its.size : Int) - 1 - (i : Nat)) ∧ IsTup h t its) where
  sub := fun b hb => by simp at hb; simp [hb]
  frame := fun _ _ _ st hk => ⟨st.1, st.2.1.at fun o e => hk it (by simp) o e, tup_push st.2.2 fun o e => hk t (by simp) o e⟩
  item := fun i s Q E hi st hQ => by
    have e : ((its.size : Int) - 1 - (i : Nat)) = ((its.size - 1 - i : Nat) : Int) := by omega
    have st2 := st.2.1
    rw [e] at st2
    have hx : its[its.size - 1 - i]? = some its[its.size - 1 - i] := Array.getElem?_eq_getElem (by omega)
    refine next_rt_item st2 st.2.2 hx hn fun h' r sb => hQ _ h' _ hx ⟨by omega, ?_, tup_push st.2.2 fun o e => (sb.2 t hne).trans e⟩ fun b o hb e => (sb.2 b (fun z => hb (by simp [z]))).trans e
    have e2 : ((its.size : Int) - 1 - ((i + 1 : Nat) : Int)) = ((its.size - 1 - i : Nat) : Int) - 1 := by omega
    rw [e2]; exact r
  done := fun s Q E st hQ => by
    have e : ((its.size : Int) - 1 - (its.size : Nat)) = -1 := by omega
    have st2 := st.2.1
    rw [e] at st2
    exact next_rt_end hh st2 fun h' he => hQ h' s.toks fun b o hb q => he b o (fun z => hb (by simp [z])) q
  self := fun _ _ _ _ st hQ => iter_rt st.2.1 hQ
theorem collect_rt {Q : List Value → Shared → Prop} (hh : A.handled = none) (hit : IsRt s.heap it t ((its.size : Int) - 1)) (hl : IsTup s.heap t its) (hne : t ≠ it) (hn : its.size ≤ sizeLine)
    (k : ∀ (h' : Heap) (tk : Nat) (acc : Array Value), (∀ b o, b ≠ it → s.heap.get? b = some o → h'.get? b = some o) → ItemsOf (fun i v => its[its.size - 1 - i]? = some v) acc its.size → Q acc.toList { s with heap := h', toks := tk }) :
    wpAny (model prog w) A (collect (.ref it)) Q E s := by
  have W := (walks_rt (prog := prog) (w := w) (A := A.in1) (it := it) (t := t) (its := its) hh hne hn).toS
  obtain ⟨oi, hoi, _⟩ := id hit
  obtain ⟨ol, hol, _⟩ := id hl
  have n1 : s.heap.objs.size ≠ it := Nat.ne_of_gt (Heap.lt_size hoi)
  have n2 : s.heap.objs.size ≠ t := Nat.ne_of_gt (Heap.lt_size hol)
  have n3 : s.heap.objs.size ∉ [it, t] := by simp only [List.mem_cons, List.not_mem_nil, or_false, not_or]; exact ⟨n1, n2⟩
  unfold collect
  refine wpAny_bind (wpAny_runValue (codeAny_builtin F.entry_proto_collect ?_))
  rw [Around.under_plainId F.plain_proto_collect _]
  show wpAny _ A.in1 (newList [] >>= fun b => again (.builtin "list.__iadd__" ⟨[b, .ref it], []⟩)) _ _ s
  refine wpAny_bind (wpAny_newObj_type ?_)
  refine wpAny_pure ⟨plainId_quiet F.plain_list_iadd _, codeAny_builtin F.entry_list_iadd ?_⟩
  rw [Around.under_plainId F.plain_list_iadd _]
  have g0 : (nL s.heap).get? s.heap.objs.size = some { cls := .type "list", data := .seq ([] : List Value).toArray } := Heap.get?_push_size _ rfl
  have g1 : IsRt (nL s.heap) it t ((its.size : Int) - 1) := hit.at fun o e => Heap.get?_push_of_some _ e
  have g2 : IsTup (nL s.heap) t its := tup_push hl fun o e => Heap.get?_push_of_some _ e
  have hT : ({ s with heap := nL s.heap } : Shared).TypeIs (.ref it) "reversed" := IsRt.typeIs (s := { s with heap := nL s.heap }) g1
  have g3 : Builtin.List.listSameRef (.ref s.heap.objs.size) (.ref it) = false := by simp [Builtin.List.listSameRef, n1]
  show wpAny _ A.in1 (Builtin.List.listExtendWith (.ref s.heap.objs.size) (.ref it) (.ref s.heap.objs.size)) _ _ _
  unfold Builtin.List.listExtendWith
  refine wpAny_bind (wpAny_typeOf hT ?_)
  rw [if_neg (by rw [g3]; decide)]
  refine wpAny_bind (iter_rt (s := { s with heap := nL s.heap }) g1 ?_)
  refine wpAny_bind (wpAny_holding ?_)
  unfold Builtin.List.listLengthHint
  refine wpAny_bind (wpAny_specialOf hT nolen_rv ?_)
  show wpAny _ A.in1 (specialOf (Value.ref it) (Str.ofString "__length_hint__") >>= _) _ _ _
  refine wpAny_bind (wpAny_specialOf hT hint_rv ?_)
  generalize hid : ("reversed.__length_hint__" : String) = id0
  wp_delta
  rw [show splitId id0 = some ("reversed", "__length_hint__") from by subst hid; decide +kernel]
  subst hid
  refine wpAny_bind (wpAny_isInstance (b := true) hT (by rw [isSubtype_type]; kernel_rfl) ?_)
  rw [if_neg (by decide)]
  dsimp only
  rw [if_neg (by decide +kernel)]
  refine wpAny_bind (wpAny_rule ?_)
  refine wpAny_bind (wpAny_of_eq (slot_rt_hint.bind _) ?_)
  dsimp only
  refine wpAny_bind (wpAny_attempt (wpAny_call_entry slot_rt_hint hT entry_rt_hint ?_ (args_rt_hint _)))
  obtain ⟨oi', hoi', _, hdi'⟩ := id g1
  unfold Builtin.«reversed.__length_hint__»
  refine wpAny_bind (wpAny_of_eq (a := Value.ref it) rfl ?_)
  dsimp only
  refine wpAny_bind (wpAny_field hoi' hdi' (x := .ref t) rfl ?_)
  rw [if_neg (show ¬ ((Value.ref t == Value.none) = true) from Bool.false_ne_true)]
  refine wpAny_bind (len_tuple (s := { s with heap := nL s.heap }) g2 (by rw [sizeLine_eq] at hn; omega) ?_)
  refine wpAny_bind (wpAny_of_eq (a := some ((its.size : Nat) : Int)) rfl ?_)
  dsimp only
  refine wpAny_bind (wpAny_field (s := { s with heap := nL s.heap, toks := s.toks + 1 + 1 }) hoi' hdi' (x := rawInt ((its.size : Int) - 1)) rfl ?_)
  show wpAny _ _ (if ((its.size : Nat) : Int) < (its.size : Int) - 1 + 1 then _ else _) _ _ _
  rw [if_neg (show ¬ (((its.size : Nat) : Int) < (its.size : Int) - 1 + 1) by omega)]
  refine wpAny_bind (wpAny_mkInt ?_)
  refine wpAny_pure ⟨_, rfl, ?_⟩
  have e1 : ((its.size : Int) - 1 + 1) = (its.size : Nat) := by omega
  rw [e1]
  show wpAny _ A.in1 (asInt? (.int ((its.size : Nat) : Int) _) >>= _) _ _ _
  have ea : ∀ tk : Tok, asInt? (.int ((its.size : Nat) : Int) tk) = pure (some ((its.size : Nat) : Int)) := fun tk => rfl
  rw [ea]
  with_reducible refine wpAny_bind ?_
  with_reducible refine wpAny_pure ?_
  dsimp only
  have hn' := hn
  rw [sizeLine_eq] at hn'
  have f1 : Builtin.List.listFitsIndex ((its.size : Nat) : Int) = true := by
    unfold Builtin.List.listFitsIndex
    rw [decide_eq_true (by omega), decide_eq_true (by omega)]; rfl
  have f2 : Builtin.List.listTooLong ((its.size : Nat) : Int).toNat = false := by
    unfold Builtin.List.listTooLong
    rw [Int.toNat_natCast]
    exact decide_eq_false (Nat.not_lt.mpr hn)
  rw [f1, f2, if_neg (by decide), if_neg (by omega), if_neg (by decide)]
  refine wpAny_pure ?_
  have fin : ∀ (h2 : Heap) (tk c : Nat), s.toks ≤ tk → h2.get? s.heap.objs.size = some { cls := .type "list", dict := none, data := .seq #[] c, slots := #[] } → (∀ b o, b ≠ s.heap.objs.size → (nL s.heap).get? b = some o → h2.get? b = some o) →
      wpAny (model prog w) A.in1 (again (.builtin "list.extend.loop" ⟨[.ref s.heap.objs.size, .ref it, .ref s.heap.objs.size], []⟩)) (fun f s' => match f with
        | .done f => match (Except.ok f : Except Value Flow) with
          | .ok (.ret v) => wpAny (model prog w) A (match v with
            | .ref a => do
              match (← load a).data with
              | .seq xs _ => pure xs.toList
              | _ => unsupported "internal:collect"
            | _ => unsupported "internal:collect") Q E s'
          | .ok _ => False
          | .error e => E e s'
        | .again c' => c'.quiet = true ∧ codeAny (model prog w) A c' (fun r s' => match r with
          | .ok (.ret v) => wpAny (model prog w) A (match v with
            | .ref a => do
              match (← load a).data with
              | .seq xs _ => pure xs.toList
              | _ => unsupported "internal:collect"
            | _ => unsupported "internal:collect") Q E s'
          | .ok _ => False
          | .error e => E e s') s') E { s with heap := h2, toks := tk } := by
    intro h2 tk c htk hS2 oth
    have e0 : ((its.size : Nat) : Int) - 1 - ((0 : Nat) : Int) = (its.size : Int) - 1 := by omega
    refine wpAny_pure ⟨plainId_quiet F.plain_extend_loop _, codeAny_extend_loopS W hn _ n3 _ its.size 0 _ _ _ rfl (Nat.zero_le _) ⟨Nat.zero_le _, by rw [e0]; exact g1.at fun o e => oth _ o (Ne.symm n1) e, tup_push g2 fun o e => oth _ o (Ne.symm n2) e⟩ hS2 (ItemsOf.nil _) fun u acc c hm hS hacc => ?_⟩
    show wpAny _ A (load s.heap.objs.size >>= _) _ _ u
    refine wpAny_bind (wpAny_load hS ?_)
    refine wpAny_pure ?_
    rw [Moved.eq_with hm]
    refine k u.heap u.toks acc (fun b o hb e => hm.heap b o (fun q => ?_) (oth b o (fun z => ?_) (Heap.get?_push_of_some _ e))) hacc
    · rcases List.mem_cons.mp q with q | q
      · exact absurd (Heap.lt_size e) (by rw [q]; exact Nat.lt_irrefl _)
      · exact hb (List.mem_singleton.mp q)
    · exact absurd (Heap.lt_size e) (by rw [z]; exact Nat.lt_irrefl _)
  by_cases hz : its.size = 0
  · rw [if_neg (by rw [hz]; decide)]
    exact fin _ _ 0 (by omega) g0 fun b o _ e => e
  · rw [if_pos (by have : (((its.size : Nat) : Int) != 0) = true := by simpa using hz
                   rw [this]; rfl)]
    refine wpAny_bind (wpAny_rule ?_)
    refine wpAny_bind ?_
    show wpAny _ A.in1 (updateSeq s.heap.objs.size (·.push .none) >>= fun _ => updateSeq s.heap.objs.size (·.pop)) _ _ _
    refine wpAny_bind (wpAny_updateSeq (s := { s with heap := nL s.heap, toks := s.toks + 1 + 1 + 1 }) (hz := Nat.zero_le _) (_hz' := Nat.succ_le_succ (Nat.zero_le _)) g0 rfl ?_)
    have q3 := Heap.get?_update_self (Obj.mapSeq (·.push Value.none)) g0 rfl
    refine wpAny_updateSeq (s := { s with heap := (nL s.heap).update s.heap.objs.size (Obj.mapSeq (·.push Value.none)), toks := s.toks + 1 + 1 + 1 }) (hz := Nat.succ_le_of_lt (by rw [sizeLine_eq]; decide)) (_hz' := Nat.zero_le _) q3 rfl ?_
    have q4 := Heap.get?_update_self (Obj.mapSeq (·.pop)) q3 rfl
    exact fin _ (s.toks + 1 + 1 + 1) _ (by omega) q4 fun b o hb e => (Heap.get?_update_other _ _ (Ne.symm hb)).trans ((Heap.get?_update_other _ _ (Ne.symm hb)).trans e)
theorem code_rt {Q : Value → Shared → Prop} (hh : A.handled = none) (hit : IsRt s.heap it t ((its.size : Int) - 1)) (hl : IsTup s.heap t its) (hne : t ≠ it) (hn : its.size ≤ sizeLine)
    (k : ∀ (h' : Heap) (tk : Nat) (acc : Array Value), (∀ b o, b ≠ it → s.heap.get? b = some o → h'.get? b = some o) → ItemsOf (fun i v => its[its.size - 1 - i]? = some v) acc its.size → Q (.ref h'.objs.size) { s with heap := h'.push { cls := .type "tuple", data := .seq acc }, toks := tk }) :
    codeAny (model prog w) A (.call (.builtin "tuple.__new__") ⟨[.type "tuple", .ref it], []⟩) (wants Q E) s := by
  refine codeAny_of_tree ?_
  show wpAny _ A.in1 (do checkBuiltinCall "tuple.__new__" ⟨[.type "tuple", .ref it], []⟩; again (.builtin "tuple.__new__" ⟨[.type "tuple", .ref it], []⟩)) _ _ s
  refine wpAny_bind (wpAny_of_eq (F.newCall_tuple_1 _) (wpAny_pure ⟨plainId_quiet F.plain_tuple_new _, codeAny_builtin F.entry_tuple_new ?_⟩))
  rw [Around.under_plainId F.plain_tuple_new _]
  have m1 := sub_tuple_self
  have m2 := init_tuple_lookup
  have m3 := madeHere_tuple
  have hT : s.TypeIs (.ref it) "reversed" := hit.typeIs
  have h1 : A.in1.handled = none := hh
  wp_walk using wpAny_typeOf hT, collect_rt (A := A.in1) h1 hit hl hne hn
  intro h' tk acc hk hacc
  show wpAny _ _ (Builtin.Tuple.tupleExact acc.toList.toArray >>= fun v => ret v) _ _ _
  unfold Builtin.Tuple.tupleExact
  refine wpAny_bind (wpAny_newObj_type ?_ (by show acc.toList.toArray.size ≤ sizeLine; simp only [Array.toArray_toList]; rw [hacc.1]; exact hn))
  refine wpAny_pure ?_
  rw [show acc.toList.toArray = acc by simp]
  exact k h' tk acc hk hacc
theorem call_rt {Q : Value → Shared → Prop} (hh : A.handled = none) (hit : IsRt s.heap it t ((its.size : Int) - 1)) (hl : IsTup s.heap t its) (hne : t ≠ it) (hn : its.size ≤ sizeLine)
    (k : ∀ (h' : Heap) (tk : Nat) (acc : Array Value), (∀ b o, b ≠ it → s.heap.get? b = some o → h'.get? b = some o) → ItemsOf (fun i v => its[its.size - 1 - i]? = some v) acc its.size → Q (.ref h'.objs.size) { s with heap := h'.push { cls := .type "tuple", data := .seq acc }, toks := tk }) :
    wpAny (model prog w) A (call (.type "tuple") [.ref it]) Q E s := by
  refine callType_codes (Q₁ := fun b u => u.TypeIs b "tuple" ∧ Q b u) F.called_tuple (F.typeCall_tuple_1 _) F.entry_object_init
    (code_rt (A := A.in1) hh hit hl hne hn fun h' tk acc hk hacc => ⟨⟨_, Heap.get?_push_size _ rfl, rfl⟩, k h' tk acc hk hacc⟩) fun b u hb => ?_
  exact ⟨hb.1, F.args_object_init_2 b _, object_init_meets F.called_tuple.init.lookup F.called_tuple.made (by decide) prog w A.in1 _ u ⟨hb.1, rfl, hb.2⟩⟩
end
section
variable {X : Cx}
/-- tuple(reversed(x)), x a list or a tuple -/
def tTRev (K : Frag) (te : TE) : TE := fun σ H Q => te σ H fun v H1 => ∃ (a : Addr) (xs : List V), v = .ref a ∧ (SqL K H1 a xs ∨ SqT K H1 a xs) ∧ ∀ q, H1 q = none → Q (.ref q) (upd H1 q (.tup xs.reverse))
theorem pe_tRev {e : Expr} {te : TE} {p p2 pos pos2 : Pos} (hc : X.calm = true) (hg : Gl X "tuple") (hm : X.mg "tuple" = none) (hg2 : Gl X "reversed") (hm2 : X.mg "reversed" = none) (he : PE X e te) (hs : starEach [e] X.env = (false, eval e X.env) :: starEach [] X.env := by rfl)
    (hs2 : starEach [.Call (.Name "reversed" p2) [e] [] pos2] X.env = (false, eval (.Call (.Name "reversed" p2) [e] [] pos2) X.env) :: starEach [] X.env := by rfl) :
    PE X (.Call (.Name "tuple" p) [.Call (.Name "reversed" p2) [e] [] pos2] [] pos) (tTRev X.K te) := by
  refine ⟨fun pins s σ H Q I h => ?_⟩
  refine Call_ (ld_blt I hg hm boot_tuple (PyProof.Rows.callWith_type1 (args_cons (Call_ (ld_blt I hg2 hm2 PyProof.Rows.boot_reversed (PyProof.Rows.callWith_type1 (args_cons (thn (he.run pins s σ H _ I h) fun u s1 ⟨v, H1, I1, r1, q1⟩ => args_nil ?_) hs) hs rfl))) hs2) hs2 rfl))
  obtain ⟨a, xs, rfl, hq, q⟩ := q1
  obtain rfl : u = Value.ref a := r1
  obtain ⟨f0, f1, f2, f3, f4, f5⟩ := I1.fpOk (H' := H1) (b := s1.heap.objs.size) (Nat.le_refl _) (I1.hok.fresh (Nat.le_refl _))
  rcases hq with hq | hq
  · obtain ⟨its, rv, pl, hz⟩ := I1.list hq
    have hl := pl.isList
    obtain ⟨ol, hol, _⟩ := id hl
    have ne : a ≠ s1.heap.objs.size := Nat.ne_of_lt (Heap.lt_size hol)
    have hn : its.toArray.size ≤ sizeLine := by rw [List.size_toArray, ← rv.length]; exact hz
    refine call_reversed_list hl (args_nil ?_)
    have I2 : Inv X pins σ H1 { s1 with heap := s1.heap.push (revObj a ((its.toArray.size : Int) - 1)) } := I1.kept (t' := s1.toks) fun b o e => Heap.get?_push_of_some _ e
    refine call_tuple_rev (s := { s1 with heap := s1.heap.push (revObj a ((its.toArray.size : Int) - 1)) }) (I1.ok.hd hc) ⟨_, Heap.get?_push_size _ rfl, rfl, rfl⟩ (hl.push _) ne hn fun h' tk acc hk hi => ?_
    have I3 : Inv X pins σ H1 { s1 with heap := h', toks := tk } := I2.turned (t' := tk) (fun b o hb e => hk b o hb e) f0 f1 f3 f4 f5
    refine ⟨.ref h'.objs.size, upd H1 h'.objs.size (.tup xs.reverse), I3.laid (t' := tk) (fun c o e => Heap.get?_push_of_some _ e) (Nat.le_refl _) (show ObjOk X.prog X.w _ _ _ (.tup xs.reverse) from ⟨by rw [List.length_reverse]; exact hz, acc.toList, vals_rev rv hi, ?_⟩), rfl, q _ (I3.hok.fresh (Nat.le_refl _))⟩
    rw [Array.toArray_toList]; exact IsTup.new _ _
  · obtain ⟨its, rv, pl, hz⟩ := I1.tuple hq
    obtain ⟨ol, hol, _⟩ := id pl
    have ne : a ≠ s1.heap.objs.size := Nat.ne_of_lt (Heap.lt_size hol)
    have hn : its.toArray.size ≤ sizeLine := by rw [List.size_toArray, ← rv.length]; exact hz
    refine call_reversed_tup pl (fun A E Q k => len_tuple pl (by rw [sizeLine_eq] at hn; omega) k) (args_nil ?_)
    have I2 : Inv X pins σ H1 { s1 with heap := s1.heap.push (rtObj a ((its.toArray.size : Int) - 1)), toks := s1.toks + 1 + 1 } := I1.kept (t' := s1.toks + 1 + 1) fun b o e => Heap.get?_push_of_some _ e
    refine call_rt (s := { s1 with heap := s1.heap.push (rtObj a ((its.toArray.size : Int) - 1)), toks := s1.toks + 1 + 1 }) (I1.ok.hd hc) ⟨_, Heap.get?_push_size _ rfl, rfl, rfl⟩ (tup_push pl fun o e => Heap.get?_push_of_some _ e) ne hn fun h' tk acc hk hi => ?_
    have I3 : Inv X pins σ H1 { s1 with heap := h', toks := tk } := I2.turned (t' := tk) (fun b o hb e => hk b o hb e) f0 f1 f3 f4 f5
    refine ⟨.ref h'.objs.size, upd H1 h'.objs.size (.tup xs.reverse), I3.laid (t' := tk) (fun c o e => Heap.get?_push_of_some _ e) (Nat.le_refl _) (show ObjOk X.prog X.w _ _ _ (.tup xs.reverse) from ⟨by rw [List.length_reverse]; exact hz, acc.toList, vals_rev rv hi, ?_⟩), rfl, q _ (I3.hok.fresh (Nat.le_refl _))⟩
    rw [Array.toArray_toList]; exact IsTup.new _ _
theorem dn_rev {K : Kz} {w : Wd} {H : Hp} : ∀ {vs : List V} {ds : List PV}, DnAll K w H vs ds → DnAll K w H vs.reverse ds.reverse
  | _, _, .nil => .nil
  | _, _, .cons h r => by
    rw [List.reverse_cons, List.reverse_cons]
    exact (dn_rev r).append (.cons h .nil)
def rTRev (x : PV) (w : Wd) (Q : WQ) : Prop := match x with
  | .tup ds => Q (.tup ds.reverse) w
  | .lst ds => Q (.tup ds.reverse) w
  | _ => False
def wTRev (te : WE) : WE := fun ρ w Q => te ρ w fun x w1 => rTRev x w1 Q
theorem de_tRev {e : Expr} {te : WE} {p p2 pos pos2 : Pos} (hc : X.calm = true) (hg : Gl X "tuple") (hm : X.mg "tuple" = none) (hg2 : Gl X "reversed") (hm2 : X.mg "reversed" = none) (he : DE X e te) (hs : starEach [e] X.env = (false, eval e X.env) :: starEach [] X.env := by rfl)
    (hs2 : starEach [.Call (.Name "reversed" p2) [e] [] pos2] X.env = (false, eval (.Call (.Name "reversed" p2) [e] [] pos2) X.env) :: starEach [] X.env := by rfl) :
    DE X (.Call (.Name "tuple" p) [.Call (.Name "reversed" p2) [e] [] pos2] [] pos) (wTRev te) :=
  pe_le (pe_tRev hc hg hm hg2 hm2 he hs hs2) fun σ H Q ⟨Z, ρ, w, Q', r, h, k⟩ => up1 r h fun x H1 d w1 e1 r1 n h1 => by
    cases n with
    | tup hT hA => exact ⟨_, _, rfl, .inr hT.sq, fun q hq => k _ _ (post_trans e1 (post_tup r1.wk hq (dn_rev hA) h1))⟩
    | lst hL hA => exact ⟨_, _, rfl, .inl hL.sq, fun q hq => k _ _ (post_trans e1 (post_tup r1.wk hq (dn_rev hA) h1))⟩
    | _ => exact h1.elim
end
end Pd

/-! steps of the further readings -/
namespace Pd
open PySem L2
theorem room70 {k : Nat} {A : Around} (r : Room k A) : A.units + 70 < cLine := by have := r.un; omega
section
variable {ρ : Sl} {w : Wd} {Q : WQ} {D : WEnds} {te ta to ti : WE} {tA : WT} {TA : WA} {g : WG} {d o i x y : PV} {ds es zs : List PV} {a : Addr} {wi : WI} {vs : List Nat} {tyD : PV → Wd → Prop} {rD : PV → List PV → Wd → WQ → Prop} {kvs : List (PV × PV)}
instance s_dnewP : Stp (wDNewP ρ w Q) (∀ p, w p = none → Q (.ref p) (wset w p (.dcp []))) := ⟨id⟩
instance s_dnewK : Stp (wDNewK ρ w Q) (∀ p, w p = none → Q (.ref p) (wset w p (.dct []))) := ⟨id⟩
instance s_gsubx {N : Sl → Wd → Prop} : Stp (wgSubX to ti d ρ w N) (to ρ w fun o w1 => ti ρ w1 fun i w2 => rSubX d o i w2 fun w3 => N ρ w3) := ⟨id⟩
theorem x_rsubP {N : Wd → Prop} (hw : w a = some (.dcp kvs)) (pk : pKey (.tup es)) (hl : kvs.length < sizeLine) (h : N (wset w a (.dcp (putP kvs (.tup es) d)))) : rSubX d (.ref a) (.tup es) w N := by
  unfold rSubX; simp only [hw]; exact ⟨pk, hl, h⟩
instance s_frz : Stp (wFrz te ρ w Q) (te ρ w fun d w1 => onFrz d w1 Q) := ⟨id⟩
instance s_frzL : Stp (onFrz (.lst ds) w Q) (Q (.lst ds) w) := ⟨id⟩
instance s_frzT : Stp (onFrz (.tup ds) w Q) (Q (.tup ds) w) := ⟨id⟩
instance s_frzN : Stp (onFrz .non w Q) (Q .non w) := ⟨id⟩
instance s_frzI {i : Int} : Stp (onFrz (.int i) w Q) (Q (.int i) w) := ⟨id⟩
instance s_frzB {i : Bool} : Stp (onFrz (.bl i) w Q) (Q (.bl i) w) := ⟨id⟩
instance s_frzS {i : Str} : Stp (onFrz (.str i) w Q) (Q (.str i) w) := ⟨id⟩
theorem x_frzR (hw : w a = some (.lst ds)) (h : Q (.lst ds) (wdel w a)) : onFrz (.ref a) w Q := by unfold onFrz; simp only [hw]; exact h
instance s_lcM : Stp (wLcM wi g tA te vs ρ w Q) (wi ρ w fun ds w1 => ds.length < sizeLine ∧ compD g tA te (wipeD ρ vs) (fun acc w2 => ∀ p, w2 p = none → Q (.ref p) (wset w2 p (.lst acc))) ds [] w1) := ⟨id⟩
instance s_sortSet : Stp (wSortSet te ρ w Q) (te ρ w fun x w1 => rSortSet x w1 Q) := ⟨id⟩
instance s_tRev : Stp (wTRev te ρ w Q) (te ρ w fun x w1 => rTRev x w1 Q) := ⟨id⟩
instance s_rTRevT : Stp (rTRev (.tup ds) w Q) (Q (.tup ds.reverse) w) := ⟨id⟩
instance s_rTRevL : Stp (rTRev (.lst ds) w Q) (Q (.tup ds.reverse) w) := ⟨id⟩
instance s_BM : Stp (wBM tyD rD to TA ρ w Q) (to ρ w fun x w1 => tyD x w1 ∧ TA ρ w1 fun ds w2 => rD x ds w2 Q) := ⟨id⟩
theorem x_isM {B : Prop} (hw : w a = some (.lst ds)) (h : B) : isM (.ref a) w ∧ B := ⟨by unfold isM; simp only [hw], h⟩
theorem x_app (hw : w a = some (.lst ds)) (hl : ds.length < sizeLine) (h : Q .non (wset w a (.lst (ds ++ [y])))) : mAppend (.ref a) [y] w Q := by unfold mAppend; simp only [hw]; exact ⟨hl, h⟩
theorem x_extL (hw : w a = some (.lst ds)) (hl : ds.length + zs.length ≤ sizeLine) (h : Q .non (wset w a (.lst (ds ++ zs)))) : mExtend (.ref a) [.lst zs] w Q := by unfold mExtend; simp only [hw, vw]; exact ⟨hl, h⟩
instance s_listXL : Stp (cListX [.lst ds] w Q) (Q (.lst ds) w) := ⟨id⟩
instance s_listXT : Stp (cListX [.tup ds] w Q) (Q (.lst ds) w) := ⟨id⟩
instance s_listXZ : Stp (cListX [.scr ds] w Q) (Q (.lst ds) w) := ⟨id⟩
theorem x_listP (hw : w a = some (.dcp kvs)) (h : Q (.lst (kvs.map (·.1))) w) : cListX [.ref a] w Q := by unfold cListX; simp only [hw]; exact h
instance s_chain3 {r r' r'' : R2D} {tb tc td : WE} : Stp (wChain3 r r' r'' ta tb tc td ρ w Q) (ta ρ w fun x w1 => tb ρ w1 fun y w2 => r x y w2 fun z w3 => onB z fun k => if k = true then tc ρ w3 fun u w4 => r' y u w4 fun z2 w5 => onB z2 fun k2 => if k2 = true then td ρ w5 fun v w6 => r'' u v w6 Q else Q (.bl false) w5 else Q (.bl false) w3) := ⟨x_chain3⟩
/-! a thing of the def's own that nobody needs any more is forgotten -/
def onFgt : Sl → Nat → PV → Wd → WQ → Prop
  | [], _, d, w, Q => Q d w
  | o :: _, 0, d, w, Q => match o with
    | some (.ref a) => Q d (wdel w a)
    | _ => Q d w
  | _ :: r, n + 1, d, w, Q => onFgt r n d w Q
def wFgt (n : Nat) (t : WE) : WE := fun ρ w Q => t ρ w fun d w1 => onFgt ρ n d w1 Q
theorem onFgt_or : ∀ {ρ : Sl} {n : Nat} {d : PV} {w : Wd} {Q : WQ}, onFgt ρ n d w Q → Q d w ∨ ∃ a, Q d (wdel w a)
  | [], _, _, _, _, h => .inl (by simpa [onFgt] using h)
  | o :: r, n + 1, _, _, _, h => onFgt_or (ρ := r) h
  | none :: _, 0, _, _, _, h => .inl h
  | some x :: _, 0, _, _, _, h => by
    cases x with
    | ref a => exact .inr ⟨a, h⟩
    | _ => exact .inl h
instance s_fgt {n : Nat} : Stp (wFgt n te ρ w Q) (te ρ w fun d w1 => onFgt ρ n d w1 Q) := ⟨id⟩
instance s_fgtS {n : Nat} {u : Option PV} {r : Sl} : Stp (onFgt (u :: r) (n + 1) d w Q) (onFgt r n d w Q) := ⟨id⟩
instance s_fgtR {r : Sl} : Stp (onFgt (some (.ref a) :: r) 0 d w Q) (Q d (wdel w a)) := ⟨id⟩
instance s_fgtN {r : Sl} : Stp (onFgt (none :: r) 0 d w Q) (Q d w) := ⟨id⟩
instance s_fgtL {r : Sl} : Stp (onFgt (some (.lst ds) :: r) 0 d w Q) (Q d w) := ⟨id⟩
end
theorem de_fgt {X : Cx} {e : Expr} {te : WE} (n : Nat) (h : DE X e te) : DE X e (wFgt n te) :=
  pe_le h fun σ H Q ⟨Z, ρ, w, Q', r, h, k⟩ => up1 r h fun x H1 d w1 e1 r1 n h1 => by
    rcases onFgt_or h1 with q | ⟨a, q⟩
    · exact k _ _ (post_trans e1 (post_same r1.wk n q))
    · exact k _ _ ⟨d, wdel w1 a, e1.trans (Ext.del a), r1.wk.del a, n.ext (Ext.del a), q⟩
end Pd

/-! for x in reversed(tuple) -/
namespace Pd
open PySem L2 PyProof.Rows RT
theorem itd_rvT {K : Kz} {w : Wd} {H : Hp} {a : Addr} {xs : List V} {ds : List PV} (h : Tp K w H a xs) (n : DnAll K w H xs ds) : ItD K (ItvT K.K.F a xs.length) w H ds.reverse where
  go := fun i w' H' e hi => by
    rw [List.length_reverse] at hi
    have hl := n.length
    obtain ⟨v, h1, _⟩ := n.get (List.getElem?_eq_getElem (show xs.length - 1 - i < ds.length by omega))
    exact ⟨by omega, xs, v, (h.ext e).sq, h1⟩
  yld := fun i w' H' x H'' Z' e z k hi ⟨h1, h2⟩ => by
    subst h1
    rw [List.length_reverse] at hi
    have hl := n.length
    obtain ⟨d, h3, h4⟩ := n.get' (h2 xs (h.ext e).sq)
    refine ⟨d, ?_, Ext.refl _ _, k, (h4.hide z).ext e⟩
    rw [List.getElem?_reverse hi, ← hl]; exact h3
  stop := fun w' H' e => by
    rw [List.length_reverse]
    show xs.length ≤ ds.length
    rw [n.length]; exact Nat.le_refl _
def onTup (x : PV) (k : List PV → Prop) : Prop := match x with
  | .tup ds => k ds
  | _ => False
def wRevI (te : WE) : WI := fun ρ w Q => te ρ w fun x w1 => onTup x fun ds => Q ds.reverse w1
section
variable {X : Cx} {tg e it c : Expr} {te : WE} {pos p : Pos} {ta : WA}
theorem di_rev (hg : Gl X "reversed") (hm : X.mg "reversed" = none) (he : DE X e te) (hs : starEach [e] X.env = (false, eval e X.env) :: starEach [] X.env := by rfl) : DI X tg (.Call (.Name "reversed" p) [e] [] pos) (wRevI te) :=
  pi_le (pi_revA hg hm he hs) fun σ H R ⟨Z, ρ, w, Q', r, h, k⟩ => up1 r h fun x H1 d w1 e1 r1 n h1 => by
    cases n with
    | tup hp hn => exact ⟨_, _, rfl, .inr ⟨hp.sq, k _ _ _ _ e1 r1.wk (itd_rvT hp hn) h1⟩⟩
    | _ => exact h1.elim
end
end Pd

/-! tuple * int -/
namespace Pd
open PySem PySem.Spec PyProof.Rows L2
theorem tuple_mul1 (l : Addr) (items : Array Value) (n : Nat) (dd : Option Addr) (sl : Array (Option Value)) (x : Int) (u : Tok) (c0 : (decide (x < -(2 ^ 63)) || decide (x ≥ 2 ^ 63)) = false) (c1 : (items.isEmpty || x == 1) = true) :
    Meets (Builtin.«tuple.__mul__» ⟨[.ref l, .int x u], []⟩) (fun _ R s => s.heap.get? l = some { cls := .type "tuple", dict := dd, data := .seq items n, slots := sl } ∧
      R (.ok (.ret (Value.ref l))) s) :=
  .of_wp fun prog w A R s h => by
    obtain ⟨hp, g, d, tk, os⟩ := s
    obtain ⟨hl, h⟩ := h
    have f1 := AutoSeq1.idx_int
    wp_walk using wpAny_loadPart' hl
    repeat (first
      | (refine wpAny_ite_false (decide_eq_false (by rw [c0]; exact Bool.false_ne_true)) ?_; wp_walk using wpAny_loadPart' hl)
      | (refine wpAny_ite_true (decide_eq_true (by rw [c1])) ?_; wp_walk using wpAny_loadPart' hl))
    exact ⟨_, rfl, h⟩
theorem tuple_mul0 (l : Addr) (items : Array Value) (n : Nat) (dd : Option Addr) (sl : Array (Option Value)) (x : Int) (u : Tok) (c0 : (decide (x < -(2 ^ 63)) || decide (x ≥ 2 ^ 63)) = false) (c1 : (items.isEmpty || x == 1) = false) (c2 : (decide (x ≤ 0) || items.isEmpty) = true) :
    Meets (Builtin.«tuple.__mul__» ⟨[.ref l, .int x u], []⟩) (fun _ R s => s.heap.get? l = some { cls := .type "tuple", dict := dd, data := .seq items n, slots := sl } ∧
      R (.ok (.ret (Value.ref s.heap.objs.size))) { s with heap := s.heap.push { cls := Value.type "tuple", data := Data.seq #[] }, toks := s.toks }) :=
  .of_wp fun prog w A R s h => by
    obtain ⟨hp, g, d, tk, os⟩ := s
    obtain ⟨hl, h⟩ := h
    have f1 := AutoSeq1.idx_int
    wp_walk using wpAny_loadPart' hl
    repeat (first
      | (refine wpAny_ite_false (decide_eq_false (by rw [c0]; exact Bool.false_ne_true)) ?_; wp_walk using wpAny_loadPart' hl)
      | (refine wpAny_ite_false (decide_eq_false (by rw [c1]; exact Bool.false_ne_true)) ?_; wp_walk using wpAny_loadPart' hl)
      | (refine wpAny_ite_true (decide_eq_true (by rw [c2])) ?_; wp_walk using wpAny_loadPart' hl))
    exact ⟨_, rfl, h⟩
def rRepA (K : PySem.W.Frag) : R2 := fun x y H Q => ∃ l k xs, x = .ref l ∧ y = .int k ∧ SqT K H l xs ∧ 0 ≤ k ∧ k ≤ 1000 ∧ xs.length ≤ 1000 ∧ (k = 1 ∨ xs = [] → Q (.ref l) H) ∧ (k = 0 → xs ≠ [] → ∀ p, H p = none → Q (.ref p) (upd H p (.tup []))) ∧
  (2 ≤ k → xs ≠ [] → ∀ p, H p = none → Q (.ref p) (upd H p (.tup (List.replicate k.toNat xs).flatten)))
section
variable {X : Cx}
theorem op_repA : OpR X (binaryOp .Mult) (rRepA X.K) := by
  intro pins s σ H x y v u Q I rx ry h
  obtain ⟨l, k, xs, rfl, rfl, hT, h1, h2, hz, q1, q0, q⟩ := h
  by_cases hone : k = 1 ∨ xs = []
  · cases rx
    obtain ⟨t, rfl⟩ := ry
    obtain ⟨its, r, ⟨⟨cls, dd, data, sl⟩, ho, hc, n, hd⟩, hs⟩ := I.tuple hT
    simp only at hc hd
    subst hc hd
    have hle : its.length = xs.length := r.length.symm
    have c0 : (decide (k < -(2 ^ 63)) || decide (k ≥ 2 ^ 63)) = false := by
      rw [decide_eq_false (by omega), decide_eq_false (by omega)] <;> rfl
    have c1 : (its.toArray.isEmpty || k == 1) = true := by
      rcases hone with e | e
      · subst e; simp
      · subst e
        have : its = [] := List.eq_nil_of_length_eq_zero hle
        subst this; rfl
    refine wpAny_binaryOp_repeat_ref (T := "tuple") (U := "int") (by decide) ⟨_, ho, rfl⟩ (fun s' => typeIs_int s' k t) noFill_tuple_mul F.fills_int_mul F.slot_int_rmul repeat_tuple F.slot_int_index.lookup
      (call_meets F.slot_int_rmul (typeIs_int s k t) F.entry_int_rmul (F.args_int_rmul_2 _ _) (int_rmul_tuple k t l its.toArray n dd sl)
        ⟨ho, rfl, ⟨_, ho, rfl⟩, call_meets F.slot_tuple_mul ⟨_, ho, rfl⟩ F.entry_tuple_mul (F.args_tuple_mul_2 _ _) (tuple_mul1 l its.toArray n dd sl k t c0 c1) ⟨ho, ?_⟩⟩)
    exact ⟨.ref l, H, I, rfl, q1 hone⟩
  · have hne : xs ≠ [] := fun e => hone (.inr e)
    by_cases hk : k = 0
    · cases rx
      obtain ⟨t, rfl⟩ := ry
      obtain ⟨its, r, ⟨⟨cls, dd, data, sl⟩, ho, hc, n, hd⟩, hs⟩ := I.tuple hT
      simp only at hc hd
      subst hc hd
      have hle : its.length = xs.length := r.length.symm
      have hn : its ≠ [] := fun e => hne (by
        rw [e] at hle
        exact List.eq_nil_of_length_eq_zero hle.symm)
      have hi : its.toArray.isEmpty = false := by
        cases its with
        | nil => exact absurd rfl hn
        | cons a b => rfl
      subst hk
      refine wpAny_binaryOp_repeat_ref (T := "tuple") (U := "int") (by decide) ⟨_, ho, rfl⟩ (fun s' => typeIs_int s' 0 t) noFill_tuple_mul F.fills_int_mul F.slot_int_rmul repeat_tuple F.slot_int_index.lookup
        (call_meets F.slot_int_rmul (typeIs_int s 0 t) F.entry_int_rmul (F.args_int_rmul_2 _ _) (int_rmul_tuple 0 t l its.toArray n dd sl)
          ⟨ho, rfl, ⟨_, ho, rfl⟩, call_meets F.slot_tuple_mul ⟨_, ho, rfl⟩ F.entry_tuple_mul (F.args_tuple_mul_2 _ _) (tuple_mul0 l its.toArray n dd sl 0 t (by decide) (by rw [hi]; rfl) (by rfl)) ⟨ho, ?_⟩⟩)
      refine ⟨.ref s.heap.objs.size, _, I.laid (t' := s.toks) (o := .tup []) (fun b ob q => Heap.get?_push_of_some _ q) (Nat.le_refl _) ?_, rfl, q0 rfl hne _ (I.hok.fresh (Nat.le_refl _))⟩
      exact ⟨Nat.zero_le _, [], .nil, IsTup.new _ _⟩
    · exact op_repT pins s σ H (.ref l) (.int k) v u Q I rx ry ⟨l, k, xs, rfl, rfl, hT, hne, by omega, h2, hz, q (by omega) hne⟩
end
def dMulT : R2D := fun x y w Q => match x, y with
  | .tup ds, .int k => (0 ≤ k ∧ k ≤ 1000 ∧ ds.length ≤ 1000) ∧ Q (.tup (List.replicate k.toNat ds).flatten) w
  | _, _ => False
theorem dn_rep {K : Kz} {w : Wd} {H : Hp} {vs : List V} {ds : List PV} (h : DnAll K w H vs ds) : ∀ n : Nat, DnAll K w H (List.replicate n vs).flatten (List.replicate n ds).flatten
  | 0 => .nil
  | n + 1 => by
    rw [List.replicate_succ, List.replicate_succ, List.flatten_cons, List.flatten_cons]
    exact h.append (dn_rep h n)
section
variable {X : Cx} {K : Fw} {a b c e : Expr} {ta tb tc : WE} {pos cpos : Pos}
theorem de_mulT (ha : DE X a ta) (hb : DE X b tb) : DE X (.BinOp a .Mult b pos) (wOp dMulT ta tb) := by
  refine de_op op_repA ?_ ha hb
  intro Z x y H dx dy w Q' Q k nx ny h kq
  unfold dMulT at h
  split at h
  · obtain ⟨⟨h1, h2, h3⟩, h⟩ := h
    rename_i ds n
    obtain ⟨a1, x1, rfl, hT, n1⟩ := vwT nx rfl
    cases ny
    refine ⟨a1, n, x1, rfl, rfl, hT.sq, h1, h2, by rw [n1.length]; exact h3, fun z => ?_, fun z hne p hp => ?_, fun z hne p hp => ?_⟩
    · rcases z with z | z
      · subst z
        exact kq _ _ (post_same k (.tup hT n1) (by simpa using h))
      · subst z
        cases n1
        exact kq _ _ (post_same k (.tup hT .nil) (by simpa using h))
    · subst z
      exact kq _ _ (post_tup k hp .nil (by simpa using h))
    · exact kq _ _ (post_tup k hp (dn_rep n1 _) h)
  · exact h.elim
/-- x or y, x a text or None -/
def rOrX (E : Wd → Prop) (x : PV) (w : Wd) (Q : WQ) : Prop := match x with
  | .non => E w
  | .str s => s.length ≤ sizeLine ∧ (s.length = 0 → E w) ∧ (s.length ≠ 0 → Q (.str s) w)
  | _ => False
def wOrX (ta tb : WE) : WE := fun ρ w Q => ta ρ w fun x w1 => rOrX (fun w2 => tb ρ w2 Q) x w1 Q
theorem de_orX {rest : List Expr} (ha : DE X a ta) (hb : DE X (.BoolOp .Or (b :: rest) pos) tb) : DE X (.BoolOp .Or (a :: b :: rest) pos) (wOrX ta tb) := by
  refine pe_le (pe_orT ha hb) fun σ H Q ⟨Z, ρ, w, Q', r, h, k⟩ => up1 r h fun x H1 d w1 e1 r1 n1 h1 => ?_
  unfold rOrX at h1
  split at h1
  · cases n1
    refine ⟨false, rfl, ?_⟩
    rw [if_neg (by decide)]
    refine ⟨Z, ρ, w1, Q', r1, h1, fun x2 H2 p => k _ _ (post_trans e1 p)⟩
  · rename_i s
    cases n1
    obtain ⟨hs, hE, hQ⟩ := h1
    by_cases hz : s.length = 0
    · refine ⟨false, ⟨hs, by rw [hz]; rfl⟩, ?_⟩
      rw [if_neg (by decide)]
      refine ⟨Z, ρ, w1, Q', r1, hE hz, fun x2 H2 p => k _ _ (post_trans e1 p)⟩
    · refine ⟨true, ⟨hs, ?_⟩, ?_⟩
      · have : ((s.length : Int) != 0) = true := by
          rw [bne_iff_ne]; omega
        rw [this]
      rw [if_pos rfl]
      exact k _ _ (post_trans e1 (post_same r1.wk (.str s) (hQ hz)))
  · exact h1.elim
/-- x[n].replace(y, z) of written texts -/
theorem pe_replI {i : Int} {j0 j1 j2 : Nat} {c0 c1 c2 apos : Pos} {y z : Str} {te : TE} {r : R2} (hr : IxR X r) (ha : PE X a te) (hyz : (y == z) = false := by decide)
    (hst : starEach [.Constant (.str y) j1 c1, .Constant (.str z) j2 c2] X.env = [(false, eval (.Constant (.str y) j1 c1) X.env), (false, eval (.Constant (.str z) j2 c2) X.env)] := by rfl)
    (hbase : attributeBase (.Subscript a (.Constant (.int i) j0 c0) cpos) "replace" X.env (eval (.Subscript a (.Constant (.int i) j0 c0) cpos) X.env) = eval (.Subscript a (.Constant (.int i) j0 c0) cpos) X.env := by rfl) (hline : (apos.endLine == pos.line) = true := by rfl) :
    PE X (.Call (.Attribute (.Subscript a (.Constant (.int i) j0 c0) cpos) "replace" apos) [.Constant (.str y) j1 c1, .Constant (.str z) j2 c2] [] pos) (CwR.tReplC (tOp r te (tC (.int i))) y z) := by
  refine ⟨fun pins s σ H Q I h => ?_⟩
  refine PySem.Call_method2 hbase hst hline ?_
  refine Subscript_ (thn (ha.run pins s σ H _ I h) fun v s1 ⟨x, H1, I1, r1, q1⟩ => ?_)
  refine wpAny_Constant_int ?_
  have I2 : Inv X pins σ H1 { s1 with toks := s1.toks + 1 } := I1.tok _
  refine wpAny_mono (PySem.wpAny_toks_of (n := 1) (Nat.succ_le_succ (Nat.zero_le _)) (hr a (.Constant (.int i) j0 c0) pins _ σ H1 x (.int i) v (.int i s1.toks) _ I2 r1 ⟨_, rfl⟩ q1 rfl)) (fun v2 s3 q => ?_) fun _ _ z => z.2
  obtain ⟨hk, v', H3, I3, r3, x3, e1, hb, q⟩ := q
  subst e1
  obtain ⟨tx, e2⟩ := r3
  subst e2
  refine ⟨"str", _, PySem.F.plainAttrs_str, PySem.F.slot_str_replace, PySem.F.type_str_replace, typeIs_str _ _ _, (fun _ e => nomatch e), Calls.callWith_builtin rfl (Calls.evalArgs_plain (Calls.spliced_cons ?_))⟩
  refine Calls.Constant_str (Calls.spliced_cons (Calls.Constant_str (Calls.spliced_nil ?_)))
  exact PySem.SC.replace (by show s3.toks ≠ 0; omega) (by show s3.toks + 1 ≠ 0; omega) (by show s3.toks ≠ s3.toks + 1; omega) hyz hb fun t' k => ⟨.str (Txt.replace x3 y z), H3, I3.tok k, ⟨t', rfl⟩, q⟩
def rRep (y z : Str) (x : PV) (w : Wd) (Q : WQ) : Prop := match x with
  | .str s => s.length + (s.length + 1) * z.length ≤ 16777216 ∧ Q (.str (Txt.replace s y z)) w
  | _ => False
def wReplI (n : Nat) (ta : WE) (y z : Str) : WE := fun ρ w Q => ta ρ w fun x w1 => rIxC n x w1 fun v w2 => rRep y z v w2 Q
theorem de_replI (n : Nat) {i : Int} {j0 j1 j2 : Nat} {c0 c1 c2 apos : Pos} {y z : Str} (ha : DE X a ta) (hi : i = (n : Int) := by rfl) (hyz : (y == z) = false := by decide)
    (hst : starEach [.Constant (.str y) j1 c1, .Constant (.str z) j2 c2] X.env = [(false, eval (.Constant (.str y) j1 c1) X.env), (false, eval (.Constant (.str z) j2 c2) X.env)] := by rfl)
    (hbase : attributeBase (.Subscript a (.Constant (.int i) j0 c0) cpos) "replace" X.env (eval (.Subscript a (.Constant (.int i) j0 c0) cpos) X.env) = eval (.Subscript a (.Constant (.int i) j0 c0) cpos) X.env := by rfl) (hline : (apos.endLine == pos.line) = true := by rfl) :
    DE X (.Call (.Attribute (.Subscript a (.Constant (.int i) j0 c0) cpos) "replace" apos) [.Constant (.str y) j1 c1, .Constant (.str z) j2 c2] [] pos) (wReplI n ta y z) := by
  refine pe_le (pe_replI ix_seq ha hyz hst hbase hline) fun σ H Q ⟨Z, ρ, w, Q', r, h, k⟩ => up1 r h fun x H1 d w1 e1 r1 n1 h1 => ?_
  show rIx X.K x (.int i) H1 _
  subst hi
  unfold rIxC at h1
  have fin : ∀ v d2, Dn ⟨fw X, Z⟩ w1 H1 v d2 → rRep y z d2 w1 Q' → ∃ x, v = .str x ∧ x.length + (x.length + 1) * z.length ≤ 16777216 ∧ Q (.str (Txt.replace x y z)) H1 := by
    intro v d2 hn hq
    unfold rRep at hq
    split at hq
    · cases hn
      exact ⟨_, rfl, hq.1, k _ _ (post_trans e1 (post_same r1.wk (.str _) hq.2))⟩
    · exact hq.elim
  split at h1
  · rename_i e
    obtain ⟨p, ys, rfl, hh, hn⟩ := vwL r1.wk n1 e
    obtain ⟨v, d, q1, q2, q3⟩ := atI_on hn h1
    exact .inl ⟨p, ys, _, v, rfl, rfl, SqL.of hh, q1, fin _ _ q2 q3⟩
  · rename_i e
    obtain ⟨p, ys, rfl, hh, hn⟩ := vwT n1 e
    obtain ⟨v, d, q1, q2, q3⟩ := atI_on hn h1
    exact .inr (.inl ⟨p, ys, _, v, rfl, rfl, hh.sq, q1, fin _ _ q2 q3⟩)
  · rename_i e
    obtain ⟨p, ys, rfl, hh, hn⟩ := vwZ n1 e
    obtain ⟨v, d, q1, q2, q3⟩ := atI_on hn h1
    exact .inl ⟨p, ys, _, v, rfl, rfl, hh.sq, q1, fin _ _ q2 q3⟩
  · rename_i e
    cases vwS n1 e
    obtain ⟨c, q1, q2⟩ := onAt_at h1.2
    exact .inr (.inr ⟨_, _, c, rfl, rfl, h1.1, atI_nat q1, fin _ _ (.str _) q2⟩)
  · exact h1.elim
end
end Pd

/-! a test that is a chain of three -/
namespace L2
open PySem PySem.Spec PyProof.Rows
theorem pt_chain3 {X : Cx} {a b c d : Expr} {ta tb tc td : TE} {pos : Pos} {op op' op'' : CmpOp} {r r' r'' : R2} (ho : OpR X (compareOp op) r) (ho' : OpR X (compareOp op') r') (ho'' : OpR X (compareOp op'') r'') (ha : PE X a ta) (hb : PE X b tb) (hc : PE X c tc) (hd : PE X d td)
    (hm : lastMarks [op, op', op''] [b, c, d] = false := by with_unfolding_all rfl) : PT X (.Compare a [op, op', op''] [b, c, d] pos) (tTest (tChain3 r r' r'' ta tb tc td)) := by
  refine ⟨fun pins s σ H Q I h => ?_⟩
  refine isTrue_chain (thn (ha.run pins s σ H _ I h) fun v s1 ⟨x, H1, I1, r1, q1⟩ => test_link (thn (hb.run pins s1 σ H1 _ I1 q1) fun u s2 ⟨y, H2, I2, r2, q2⟩ =>
    thn (ho pins s2 σ H2 x y v u _ I2 r1 r2 q2) fun d s3 ⟨z, H3, I3, r3, k, e, q3⟩ => ?_)) hm
  subst e
  cases r3
  refine wpAny_truthy_bool ?_
  cases k with
  | false =>
    obtain ⟨k', e', q'⟩ := q3
    cases e'
    exact ite_ff ⟨H3, I3, q'⟩
  | true =>
    refine ite_tt (test_link (thn (hc.run pins s3 σ H3 _ I3 q3) fun w' s4 ⟨z', H4, I4, r4, q4⟩ => thn (ho' pins s4 σ H4 y z' u w' _ I4 r2 r4 q4) fun d' s5 ⟨z5, H5, I5, r5, k5, e5, q5⟩ => ?_))
    subst e5
    cases r5
    refine wpAny_truthy_bool ?_
    cases k5 with
    | false =>
      obtain ⟨k', e', q'⟩ := q5
      cases e'
      exact ite_ff ⟨H5, I5, q'⟩
    | true =>
      refine ite_tt (test_last (thn (hd.run pins s5 σ H5 _ I5 q5) fun w6 s6 ⟨z6, H6, I6, r6, q6⟩ => thn (ho'' pins s6 σ H6 z' z6 w' w6 _ I6 r4 r6 q6) fun d7 s7 ⟨z7, H7, I7, r7, k7, e7, q7⟩ => ?_))
      subst e7
      cases r7
      exact wpAny_truthy_bool ⟨H7, I7, q7⟩
end L2
namespace Pd
open PySem L2
section
variable {X : Cx} {a b c d : Expr} {ta tb tc td : WE} {pos : Pos}
theorem dt_chain3 {op op' op'' : CmpOp} {rD rD' rD'' : R2D} (c1 : CmD X op rD) (c2 : CmD X op' rD') (c3 : CmD X op'' rD'') (ha : DE X a ta) (hb : DE X b tb) (hc : DE X c tc) (hd : DE X d td)
    (hm : lastMarks [op, op', op''] [b, c, d] = false := by with_unfolding_all rfl) : DT X (.Compare a [op, op', op''] [b, c, d] pos) (wTest (wChain3 rD rD' rD'' ta tb tc td)) := by
  obtain ⟨r, ho, hl⟩ := c1.ex
  obtain ⟨r', ho', hl'⟩ := c2.ex
  obtain ⟨r'', ho'', hl''⟩ := c3.ex
  refine pt_le (pt_chain3 ho ho' ho'' ha hb hc hd hm) fun σ H Q ⟨Z, ρ, w, Q', r0, h, k⟩ => ?_
  refine up1 r0 h fun x H1 dx w1 e1 r1 n1 h1 => ?_
  refine up1 r1 h1 fun y H2 dy w2 e2 r2 n2 h2 => ?_
  refine hl Z x y H2 dx dy w2 _ _ r2.wk (n1.ext e2) n2 h2 fun z H3 ⟨dz, w3, e3, k3, n3, h3⟩ => ?_
  have r3 := r2.ext e3 k3
  obtain ⟨kb, rfl, rfl, h3⟩ := onB_of n3 h3
  refine ⟨kb, rfl, ?_⟩
  cases kb with
  | true =>
    refine iteT (up1 r3 h3 fun u H4 du w4 e4 r4 n4 h4 => ?_)
    refine hl' Z y u H4 dy du w4 _ _ r4.wk ((n2.ext e3).ext e4) n4 h4 fun z' H5 ⟨dz', w5, e5, k5, n5, h5⟩ => ?_
    have r5 := r4.ext e5 k5
    obtain ⟨kb', rfl, rfl, h5⟩ := onB_of n5 h5
    refine ⟨kb', rfl, ?_⟩
    cases kb' with
    | true =>
      refine iteT (up1 r5 h5 fun v H6 dv w6 e6 r6 n6 h6 => ?_)
      refine hl'' Z u v H6 du dv w6 _ _ r6.wk ((n4.ext e5).ext e6) n6 h6 fun v7 H7 ⟨d7, w7, e7, k7, n7, h7⟩ => ?_
      obtain ⟨b, rfl, rfl, h7⟩ := onB_of n7 h7
      exact ⟨b, rfl, k _ _ ⟨w7, e1.trans (e2.trans (e3.trans (e4.trans (e5.trans (e6.trans e7))))), k7, h7⟩⟩
    | false =>
      refine iteF ?_
      have h5 : Q' false w5 := by simpa [onB] using h5
      exact ⟨false, rfl, k _ _ ⟨w5, e1.trans (e2.trans (e3.trans (e4.trans e5))), k5, h5⟩⟩
  | false =>
    refine iteF ?_
    have h3 : Q' false w3 := by simpa [onB] using h3
    exact ⟨false, rfl, k _ _ ⟨w3, e1.trans (e2.trans e3), k3, h3⟩⟩
end
end Pd

/-! zip of two texts -/
namespace Pd
open PySem PySem.Spec PyProof.Rows L2
structure ZA (z TI TO i j : Addr) : Prop where
  a1 : TI ≠ z
  a2 : TO ≠ z
  a3 : i ≠ z
  a4 : j ≠ z
  a5 : TI ≠ TO
  a6 : TI ≠ i
  a7 : TI ≠ j
  a8 : TO ≠ i
  a9 : TO ≠ j
  a10 : i ≠ j
section
variable {prog : Program} {w : World} {A : Around} {E : Value → Shared → Prop} {s : Shared}
variable {z TI TO i j : Addr} {f1 f2 : List Addr} {k n m : Nat} {P1 P2 : Nat → Value → Prop} {S1 S2 : Nat → Heap → Prop} {a b : Value}
theorem dr_mv {it c : Addr} {h h' : Heap} {n : Nat} {P : Nat → Value → Prop} {S : Nat → Heap → Prop} {fp : List Addr} (D : Draws prog w A it fp n P S) (x : S k h) (e : Heap.ExtBut c h h') (ne : ∀ b ∈ fp, b ≠ c) : S k h' :=
  D.frame k h h' x fun b hb o q => e b o (ne b hb) q
theorem zs_item {Q : Value → Shared → Prop} (Z : ZA z TI TO i j) (F1 : ∀ b ∈ f1, b ≠ z ∧ b ≠ TO ∧ b ≠ j) (F2 : ∀ b ∈ f2, b ≠ z ∧ b ≠ TO ∧ b ≠ i) (D1 : Draws prog w A i f1 n P1 S1) (D2 : Draws prog w A j f2 m P2 S2) (hz : IsZip s.heap z TI TO .none) (hI : IsPair s.heap TI (.ref i) (.ref j)) (hO : IsPair s.heap TO a b)
    (x1 : S1 k s.heap) (x2 : S2 k s.heap) (k1 : k < n) (k2 : k < m)
    (q : ∀ h' tk x y, P1 k x → P2 k y → IsZip h' z TI TO (rawInt s.heap.objs.size) → IsPair h' TO x y → S1 (k + 1) h' → S2 (k + 1) h' → IsPair h' s.heap.objs.size x y → (∀ c o, c ≠ z → c ≠ TO → c ≠ i → c ≠ j → s.heap.get? c = some o → h'.get? c = some o) → Q (.ref s.heap.objs.size) { s with heap := h', toks := tk }) :
    wpAny (model prog w) A (Builtin.«zip.__next__» ⟨[.ref z], []⟩) (fun f s' => ∃ v, f = .done (.ret v) ∧ Q v s') E s := by
  show wpAny _ _ (field (.ref z) 2 >>= _) _ _ _
  refine wpAny_bind (wpAny_field hz rfl (x := .bool false) rfl ?_)
  show wpAny _ _ (field (.ref z) 3 >>= _) _ _ _
  refine wpAny_bind (wpAny_field hz rfl (x := .ref TI) rfl ?_)
  refine wpAny_bind (wpAny_seqItems hI rfl ?_)
  show wpAny _ _ (Builtin.SmallTypes.ownedTupleIsFree (.ref z) >>= _) _ _ _
  refine wpAny_bind ?_
  unfold Builtin.SmallTypes.ownedTupleIsFree
  refine wpAny_bind (wpAny_field hz rfl (x := .none) rfl (wpAny_pure ?_))
  simp only [if_true]
  refine wpAny_bind (wpAny_rule ?_)
  refine wpAny_bind (wpAny_field hz rfl (x := .ref TO) rfl ?_)
  refine wpAny_bind (wpAny_setField_rec hz (by simp) fun g1 y1 b1 => ?_)
  replace y1 : IsZip g1 z TI TO .ellipsis := y1
  refine wpAny_bind ?_
  simp only [List.zipIdx_cons, List.zipIdx_nil, List.forIn_cons, List.forIn_nil]
  refine wpAny_bind (wpAny_bind (wpAny_onRaise ?_))
  show wpAny _ _ (Builtin.SmallTypes.nextOf (.ref i) >>= _) _ _ _
  refine wpAny_bind (D1.item k { s with heap := g1 } _ _ k1 (dr_mv D1 x1 b1.extBut (fun b hb => (F1 b hb).1)) fun x g2 t2 px z1 b2 => wpAny_pure ?_)
  have o2 : IsPair g2 TO a b := b2.extBut _ _ Z.a8 (b1.extBut _ _ Z.a2 hO)
  refine wpAny_bind (wpAny_seqItems o2 rfl ?_)
  refine wpAny_bind (wpAny_updateSeq_pair o2 fun g3 o3 b3 => ?_)
  replace o3 : IsPair g3 TO x b := o3
  refine wpAny_bind (wpAny_letGo (wpAny_pure ?_))
  refine wpAny_bind (wpAny_bind (wpAny_onRaise ?_))
  show wpAny _ _ (Builtin.SmallTypes.nextOf (.ref j) >>= _) _ _ _
  have z2 : S2 k g3 := dr_mv D2 (dr_mv D2 (dr_mv D2 x2 b1.extBut (fun b hb => (F2 b hb).1)) b2.extBut (fun b hb => (F2 b hb).2.2)) b3.extBut (fun b hb => (F2 b hb).2.1)
  refine wpAny_bind (D2.item k { s with heap := g3, toks := t2 } _ _ k2 z2 fun y g4 t4 py z4 b4 => wpAny_pure ?_)
  have o4 : IsPair g4 TO x b := b4.extBut _ _ Z.a9 o3
  refine wpAny_bind (wpAny_seqItems o4 rfl ?_)
  refine wpAny_bind (wpAny_updateSeq_pair o4 fun g5 o5 b5 => ?_)
  replace o5 : IsPair g5 TO x y := o5
  refine wpAny_bind (wpAny_letGo (wpAny_pure (wpAny_pure ?_)))
  refine wpAny_bind (wpAny_seqItems o5 rfl ?_)
  refine wpAny_bind (wpAny_newTuple ?_)
  have sz : g5.objs.size = s.heap.objs.size := by rw [b5.1, b4.1, b3.1, b2.1, b1.1]
  have y5 : IsZip g5 z TI TO .ellipsis := b5.extBut _ _ Z.a2.symm (b4.extBut _ _ Z.a4.symm (b3.extBut _ _ Z.a2.symm (b2.extBut _ _ Z.a3.symm y1)))
  have k5 : ∀ c o, c ≠ z → c ≠ TO → c ≠ i → c ≠ j → s.heap.get? c = some o → g5.get? c = some o := fun c o c1 c2 c3 c4 e =>
    b5.extBut _ _ c2 (b4.extBut _ _ c4 (b3.extBut _ _ c2 (b2.extBut _ _ c3 (b1.extBut _ _ c1 e))))
  have w1 : S1 (k + 1) g5 := dr_mv D1 (dr_mv D1 (dr_mv D1 z1 b3.extBut (fun b hb => (F1 b hb).2.1)) b4.extBut (fun b hb => (F1 b hb).2.2)) b5.extBut (fun b hb => (F1 b hb).2.1)
  have w2 : S2 (k + 1) g5 := dr_mv D2 z4 b5.extBut (fun b hb => (F2 b hb).2.1)
  have lz : z < g5.objs.size := Heap.lt_size y5
  obtain ⟨oi, ei⟩ := D1.live _ _ w1
  obtain ⟨oj, ej⟩ := D2.live _ _ w2
  show wpAny _ _ (Builtin.SmallTypes.ownedTupleHandOut (.ref z) (.ref g5.objs.size) >>= _) _ _ _
  refine wpAny_bind ?_
  unfold Builtin.SmallTypes.ownedTupleHandOut
  have y6 : IsZip (g5.push { cls := .type "tuple", data := .seq #[x, y] }) z TI TO .ellipsis := Heap.get?_push_of_some _ y5
  refine wpAny_bind (wpAny_setField_rec y6 (by simp) fun g7 y7 b7 => ?_)
  replace y7 : IsZip g7 z TI TO (rawInt g5.objs.size) := y7
  refine wpAny_setField_rec y7 (by simp) fun g8 y8 b8 => ?_
  replace y8 : IsZip g8 z TI TO (rawInt g5.objs.size) := y8
  have up : ∀ c o, c ≠ z → g5.get? c = some o → g8.get? c = some o := fun c o c1 e => b8.extBut _ _ c1 (b7.extBut _ _ c1 (Heap.get?_push_of_some _ e))
  have t8 : IsPair g8 g5.objs.size x y := b8.extBut _ _ (Nat.ne_of_gt lz) (b7.extBut _ _ (Nat.ne_of_gt lz) (Heap.get?_push_size _ rfl))
  rw [sz] at y8 t8
  refine wpAny_pure ⟨_, rfl, ?_⟩
  show Q (.ref g5.objs.size) _
  rw [sz]
  have v1 : S1 (k + 1) g8 := D1.frame _ _ _ w1 fun c hc o e => by
    exact up _ _ (F1 c hc).1 e
  have v2 : S2 (k + 1) g8 := D2.frame _ _ _ w2 fun c hc o e => by
    exact up _ _ (F2 c hc).1 e
  exact q g8 t4 x y px py y8 (up _ _ Z.a2 o5) v1 v2 t8 fun c o c1 c2 c3 c4 e => up c o c1 (k5 c o c1 c2 c3 c4 e)
theorem zs_end {Q : Fin → Shared → Prop} (Z : ZA z TI TO i j) (F1 : ∀ b ∈ f1, b ≠ z ∧ b ≠ TO ∧ b ≠ j) (F2 : ∀ b ∈ f2, b ≠ z ∧ b ≠ TO ∧ b ≠ i) (D1 : Draws prog w A i f1 n P1 S1) (D2 : Draws prog w A j f2 m P2 S2) (hz : IsZip s.heap z TI TO .none) (hI : IsPair s.heap TI (.ref i) (.ref j)) (hO : IsPair s.heap TO a b)
    (x1 : S1 k s.heap) (x2 : S2 k s.heap) (he : k = n ∨ (k < n ∧ k = m))
    (q : ∀ h' tk e, (∀ c o, c ≠ z → c ≠ TO → c ≠ i → c ≠ j → s.heap.get? c = some o → h'.get? c = some o) → (∃ o, h'.get? e = some o ∧ o.cls = .type "StopIteration") → E (.ref e) { s with heap := h', toks := tk }) :
    wpAny (model prog w) A (Builtin.«zip.__next__» ⟨[.ref z], []⟩) Q E s := by
  show wpAny _ _ (field (.ref z) 2 >>= _) _ _ _
  refine wpAny_bind (wpAny_field hz rfl (x := .bool false) rfl ?_)
  show wpAny _ _ (field (.ref z) 3 >>= _) _ _ _
  refine wpAny_bind (wpAny_field hz rfl (x := .ref TI) rfl ?_)
  refine wpAny_bind (wpAny_seqItems hI rfl ?_)
  show wpAny _ _ (Builtin.SmallTypes.ownedTupleIsFree (.ref z) >>= _) _ _ _
  refine wpAny_bind ?_
  unfold Builtin.SmallTypes.ownedTupleIsFree
  refine wpAny_bind (wpAny_field hz rfl (x := .none) rfl (wpAny_pure ?_))
  simp only [if_true]
  refine wpAny_bind (wpAny_rule ?_)
  refine wpAny_bind (wpAny_field hz rfl (x := .ref TO) rfl ?_)
  refine wpAny_bind (wpAny_setField_rec hz (by simp) fun g1 y1 b1 => ?_)
  replace y1 : IsZip g1 z TI TO .ellipsis := y1
  refine wpAny_bind ?_
  simp only [List.zipIdx_cons, List.zipIdx_nil, List.forIn_cons, List.forIn_nil]
  refine wpAny_bind (wpAny_bind (wpAny_onRaise ?_))
  show wpAny _ _ (Builtin.SmallTypes.nextOf (.ref i) >>= _) _ _ _
  have fx1 := dr_mv D1 x1 b1.extBut (fun b hb => (F1 b hb).1)
  rcases he with rfl | ⟨k1, rfl⟩
  · refine wpAny_bind (D1.done { s with heap := g1 } _ _ fx1 fun g2 e b2 hs => ?_)
    obtain ⟨oe, h1, h2⟩ := hs
    have y2 : IsZip g2 z TI TO .ellipsis := b2 _ _ Z.a3.symm y1
    have nz : e ≠ z := fun x => by subst x; rw [y2] at h1; cases h1; simp at h2
    exact wpAny_setField_rec y2 (by simp) fun g3 _ b3 => q g3 s.toks e (fun c o c1 _ c3 _ x => b3.extBut _ _ c1 (b2 _ _ c3 (b1.extBut _ _ c1 x))) ⟨oe, b3.extBut _ _ nz h1, h2⟩
  · refine wpAny_bind (D1.item k { s with heap := g1 } _ _ k1 fx1 fun x g2 t2 px z1 b2 => wpAny_pure ?_)
    have o2 : IsPair g2 TO a b := b2.extBut _ _ Z.a8 (b1.extBut _ _ Z.a2 hO)
    refine wpAny_bind (wpAny_seqItems o2 rfl ?_)
    refine wpAny_bind (wpAny_updateSeq_pair o2 fun g3 o3 b3 => ?_)
    refine wpAny_bind (wpAny_letGo (wpAny_pure ?_))
    refine wpAny_bind (wpAny_bind (wpAny_onRaise ?_))
    show wpAny _ _ (Builtin.SmallTypes.nextOf (.ref j) >>= _) _ _ _
    have z2 : S2 k g3 := dr_mv D2 (dr_mv D2 (dr_mv D2 x2 b1.extBut (fun b hb => (F2 b hb).1)) b2.extBut (fun b hb => (F2 b hb).2.2)) b3.extBut (fun b hb => (F2 b hb).2.1)
    refine wpAny_bind (D2.done { s with heap := g3, toks := t2 } _ _ z2 fun g4 e b4 hs => ?_)
    obtain ⟨oe, h1, h2⟩ := hs
    have y4 : IsZip g4 z TI TO .ellipsis := b4 _ _ Z.a4.symm (b3.extBut _ _ Z.a2.symm (b2.extBut _ _ Z.a3.symm y1))
    have nz : e ≠ z := fun x => by subst x; rw [y4] at h1; cases h1; simp at h2
    exact wpAny_setField_rec y4 (by simp) fun g5 _ b5 => q g5 t2 e (fun c o c1 c2 c3 c4 x => b5.extBut _ _ c1 (b4 _ _ c4 (b3.extBut _ _ c2 (b2.extBut _ _ c3 (b1.extBut _ _ c1 x))))) ⟨oe, b5.extBut _ _ nz h1, h2⟩
theorem pyn_item {Q : Option Value → Shared → Prop} (Z : ZA z TI TO i j) (F1 : ∀ b ∈ f1, b ≠ z ∧ b ≠ TO ∧ b ≠ j) (F2 : ∀ b ∈ f2, b ≠ z ∧ b ≠ TO ∧ b ≠ i) (D1 : ∀ A : Around, A.handled = none → Draws prog w A i f1 n P1 S1) (D2 : ∀ A : Around, A.handled = none → Draws prog w A j f2 m P2 S2) (hh : A.handled = none) (hz : IsZip s.heap z TI TO .none) (hI : IsPair s.heap TI (.ref i) (.ref j)) (hO : IsPair s.heap TO a b)
    (x1 : S1 k s.heap) (x2 : S2 k s.heap) (k1 : k < n) (k2 : k < m)
    (q : ∀ h' tk x y, P1 k x → P2 k y → IsZip h' z TI TO (rawInt s.heap.objs.size) → IsPair h' TO x y → S1 (k + 1) h' → S2 (k + 1) h' → IsPair h' s.heap.objs.size x y → (∀ c o, c ≠ z → c ≠ TO → c ≠ i → c ≠ j → s.heap.get? c = some o → h'.get? c = some o) → Q (some (.ref s.heap.objs.size)) { s with heap := h', toks := tk }) :
    wpAny (model prog w) A (pyNext (.ref z)) Q E s := by
  have hT : s.TypeIs (.ref z) "zip" := ⟨_, hz, rfl⟩
  unfold pyNext
  exact wpAny_bind (wpAny_attempt (wpAny_callSpecial?_slot (name := Str.ofString "__next__") hT F.slot_zip_next
    (wpAny_call_entry F.slot_zip_next hT F.entry_zip_next (zs_item Z F1 F2 (D1 _ hh) (D2 _ hh) hz hI hO x1 x2 k1 k2 fun h' tk x y p1 p2 r1 r2 r3 r4 r5 r6 => wpAny_pure (q h' tk x y p1 p2 r1 r2 r3 r4 r5 r6)) (F.args_zip_next_1 _))))
theorem pyn_end {Q : Option Value → Shared → Prop} (Z : ZA z TI TO i j) (F1 : ∀ b ∈ f1, b ≠ z ∧ b ≠ TO ∧ b ≠ j) (F2 : ∀ b ∈ f2, b ≠ z ∧ b ≠ TO ∧ b ≠ i) (D1 : ∀ A : Around, A.handled = none → Draws prog w A i f1 n P1 S1) (D2 : ∀ A : Around, A.handled = none → Draws prog w A j f2 m P2 S2) (hh : A.handled = none) (hz : IsZip s.heap z TI TO .none) (hI : IsPair s.heap TI (.ref i) (.ref j)) (hO : IsPair s.heap TO a b)
    (x1 : S1 k s.heap) (x2 : S2 k s.heap) (he : k = n ∨ (k < n ∧ k = m))
    (q : ∀ h' tk, (∀ c o, c ≠ z → c ≠ TO → c ≠ i → c ≠ j → s.heap.get? c = some o → h'.get? c = some o) → Q none { s with heap := h', toks := tk }) :
    wpAny (model prog w) A (pyNext (.ref z)) Q E s := by
  have hT : s.TypeIs (.ref z) "zip" := ⟨_, hz, rfl⟩
  unfold pyNext
  refine wpAny_bind (wpAny_attempt (wpAny_callSpecial?_slot (name := Str.ofString "__next__") hT F.slot_zip_next
    (wpAny_call_entry F.slot_zip_next hT F.entry_zip_next (zs_end Z F1 F2 (D1 _ hh) (D2 _ hh) hz hI hO x1 x2 he fun h' tk e hk hs => ?_) (F.args_zip_next_1 _))))
  obtain ⟨o, h1, h2⟩ := hs
  exact wpAny_bind (wpAny_isInstance (T := "StopIteration") (b := true) ⟨o, h1, h2⟩ isSubtype_stop (wpAny_pure (q _ _ hk)))
/-! texts -/
def sTy (x : Str) : String := if x.cps.all (· < 128) then "str_ascii_iterator" else "str_iterator"
abbrev siOb (x : Str) (t : Tok) : Obj := { cls := .type (sTy x), data := .fields #[.str x t, .int 0 0] }
theorem it_str {x : Str} {t : Tok} {Q : Value → Shared → Prop} (q : Q (.ref s.heap.objs.size) { s with heap := s.heap.push (siOb x t) }) : wpAny (model prog w) A (pyIter (.str x t)) Q E s := by
  cases e : x.cps.all (· < 128) with
  | true =>
    have ty : sTy x = "str_ascii_iterator" := by unfold sTy; rw [if_pos e]
    simp only [siOb, ty] at q
    exact wpAny_pyIter_ascii e q
  | false =>
    have ty : sTy x = "str_iterator" := by unfold sTy; rw [if_neg (by rw [e]; decide)]
    simp only [siOb, ty] at q
    exact wpAny_pyIter_wide e q
def sP (x : Str) : Nat → Value → Prop := fun i v => ∃ c u, x.cps[i]? = some c ∧ v = .str ⟨#[c]⟩ u
theorem dr_str (x : Str) (t : Tok) (it : Addr) (A : Around) (hh : A.handled = none) : Draws prog w A it [it] x.cps.size (sP x) (fun i h => h.IsStrIter it (sTy x) x t i) := by
  cases e : x.cps.all (· < 128) with
  | true => have ty : sTy x = "str_ascii_iterator" := by unfold sTy; rw [if_pos e]
            rw [ty]; exact Draws.strAscii hh it x t
  | false => have ty : sTy x = "str_iterator" := by unfold sTy; rw [if_neg (by rw [e]; decide)]
             rw [ty]; exact Draws.strWide hh it x t
abbrev zsA (h : Heap) (x : Str) (t : Tok) : Heap := h.push (siOb x t)
abbrev zsB (h : Heap) (x y : Str) (t u : Tok) : Heap := (zsA h x t).push (siOb y u)
abbrev zsC (h : Heap) (x y : Str) (t u : Tok) : Heap := (zsB h x y t u).push { cls := .type "tuple", data := .seq #[.ref h.objs.size, .ref (zsA h x t).objs.size] }
abbrev zsD (h : Heap) (x y : Str) (t u : Tok) : Heap := (zsC h x y t u).push { cls := .type "tuple", data := .seq #[.none, .none] }
abbrev zsE (h : Heap) (x y : Str) (t u : Tok) : Heap := (zsD h x y t u).push { cls := .type "zip", data := .fields #[.none, .bool false, .bool false, .ref (zsB h x y t u).objs.size, .ref (zsC h x y t u).objs.size] }
theorem new_zs (x y : Str) (t u : Tok) : Meets (Builtin.«zip.__new__» ⟨[.type "zip", .str x t, .str y u], []⟩) (fun _ R s => R (.ok (.ret (.ref (zsD s.heap x y t u).objs.size))) { s with heap := zsE s.heap x y t u }) :=
  .of_wp fun prog w A R s h => by
    obtain ⟨hp, g, d, tk, os⟩ := s
    have hsub := sub_zip
    have p1 : ∀ (A : Around) (E : Value → Shared → Prop) (Q : Value → Shared → Prop) (s : Shared), Q (.ref s.heap.objs.size) { s with heap := s.heap.push (siOb x t) } → wpAny (model prog w) A (pyIter (.str x t)) Q E s := fun A E Q s q => it_str q
    have p2 : ∀ (A : Around) (E : Value → Shared → Prop) (Q : Value → Shared → Prop) (s : Shared), Q (.ref s.heap.objs.size) { s with heap := s.heap.push (siOb y u) } → wpAny (model prog w) A (pyIter (.str y u)) Q E s := fun A E Q s q => it_str q
    wp_walk using p1, p2
    exact ⟨_, rfl, h⟩
theorem call_zs {x y : Str} {t u : Tok} {Q : Value → Shared → Prop}
    (q : ∀ h', IsZip h' (s.heap.objs.size + 4) (s.heap.objs.size + 2) (s.heap.objs.size + 3) .none → IsPair h' (s.heap.objs.size + 2) (.ref s.heap.objs.size) (.ref (s.heap.objs.size + 1)) → IsPair h' (s.heap.objs.size + 3) .none .none →
      h'.IsStrIter s.heap.objs.size (sTy x) x t 0 → h'.IsStrIter (s.heap.objs.size + 1) (sTy y) y u 0 → (∀ c o, s.heap.get? c = some o → h'.get? c = some o) → Q (.ref (s.heap.objs.size + 4)) { s with heap := h' }) :
    wpAny (model prog w) A (call (.type "zip") [.str x t, .str y u]) Q E s := by
  refine callType_new F.called_zip (by decide) (F.typeCall_zip_2 _ _) (F.newCall_zip_2 _ _) (fun obj => F.args_object_init_3 obj _ _) F.entry_zip_new (new_zs x y t u) ?_
  have z1 : (zsA s.heap x t).objs.size = s.heap.objs.size + 1 := Heap.size_push ..
  have z2 : (zsB s.heap x y t u).objs.size = s.heap.objs.size + 2 := by rw [Heap.size_push, z1]
  have z3 : (zsC s.heap x y t u).objs.size = s.heap.objs.size + 3 := by rw [Heap.size_push, z2]
  have z4 : (zsD s.heap x y t u).objs.size = s.heap.objs.size + 4 := by rw [Heap.size_push, z3]
  have e5 : (zsE s.heap x y t u).get? (s.heap.objs.size + 4) = some { cls := .type "zip", data := .fields #[.none, .bool false, .bool false, .ref (zsB s.heap x y t u).objs.size, .ref (zsC s.heap x y t u).objs.size] } := by
    rw [← z4]; exact Heap.get?_push_size _ rfl
  have e4 : (zsE s.heap x y t u).get? (s.heap.objs.size + 3) = some { cls := .type "tuple", data := .seq #[.none, .none] } := by
    rw [← z3]; exact Heap.get?_push_of_some _ (Heap.get?_push_size _ rfl)
  have e3 : (zsE s.heap x y t u).get? (s.heap.objs.size + 2) = some { cls := .type "tuple", data := .seq #[.ref s.heap.objs.size, .ref (zsA s.heap x t).objs.size] } := by
    rw [← z2]; exact Heap.get?_push_of_some _ (Heap.get?_push_of_some _ (Heap.get?_push_size _ rfl))
  have e2 : (zsE s.heap x y t u).get? (s.heap.objs.size + 1) = some (siOb y u) := by
    rw [← z1]; exact Heap.get?_push_of_some _ (Heap.get?_push_of_some _ (Heap.get?_push_of_some _ (Heap.get?_push_size _ rfl)))
  have e1 : (zsE s.heap x y t u).get? s.heap.objs.size = some (siOb x t) :=
    Heap.get?_push_of_some _ (Heap.get?_push_of_some _ (Heap.get?_push_of_some _ (Heap.get?_push_of_some _ (Heap.get?_push_size _ rfl))))
  rw [z2, z3] at e5
  rw [z1] at e3
  rw [z4]
  exact ⟨⟨_, e5, rfl⟩, q _ e5 e3 e4 ⟨_, e1, rfl, rfl⟩ ⟨_, e2, rfl, rfl⟩ fun c o e => Heap.get?_push_of_some _ (Heap.get?_push_of_some _ (Heap.get?_push_of_some _ (Heap.get?_push_of_some _ (Heap.get?_push_of_some _ e))))⟩
end
/-- the texts' signs in new pairs -/
def ItzS (x y : Str) : It :=
  ⟨fun i _ => i < x.cps.size ∧ i < y.cps.size, fun i H v H' => ∃ T c d, v = .ref T ∧ H T = none ∧ H' = upd H T (.tup [.str ⟨#[c]⟩, .str ⟨#[d]⟩]) ∧ x.cps[i]? = some c ∧ y.cps[i]? = some d, fun i _ => x.cps.size ≤ i ∨ y.cps.size ≤ i⟩
theorem turn_zs {P : Program} {w : World} {K : PySem.W.Frag} {elts : List Expr} {kk : Nat} {tpos : Pos} {x y : Str} {t u : Tok} {z TI TO i1 i2 : Addr} (Z : ZA z TI TO i1 i2) :
    Turn P w K (.Tuple elts kk tpos) (ItzS x y) [z, TI, TO, i1, i2] z (fun i h => (i ≤ x.cps.size ∧ i ≤ y.cps.size) ∧ IsZip h z TI TO .none ∧ IsPair h TI (.ref i1) (.ref i2) ∧ (∃ a b, IsPair h TO a b) ∧ h.IsStrIter i1 (sTy x) x t i ∧ h.IsStrIter i2 (sTy y) y u i) where
  mem := by simp
  obj := fun i h st c hc => by
    obtain ⟨_, hz, hI, ⟨a, b, hO⟩, ⟨o1, e1, _, d1⟩, ⟨o2, e2, _, d2⟩⟩ := st
    simp only [List.mem_cons, List.not_mem_nil, or_false] at hc
    rcases hc with rfl | rfl | rfl | rfl | rfl
    · exact ⟨_, hz, fun v q => nomatch q⟩
    · exact ⟨_, hI, fun v q => nomatch q⟩
    · exact ⟨_, hO, fun v q => nomatch q⟩
    · exact ⟨o1, e1, fun v q => by rw [d1] at q; cases q⟩
    · exact ⟨o2, e2, fun v q => by rw [d2] at q; cases q⟩
  keep := fun i h h' st k => by
    obtain ⟨hl, hz, hI, ⟨a, b, hO⟩, ⟨o1, e1, r1⟩, ⟨o2, e2, r2⟩⟩ := st
    exact ⟨hl, k z (by simp) _ hz, k TI (by simp) _ hI, ⟨a, b, k TO (by simp) _ hO⟩, ⟨o1, k i1 (by simp) _ e1, r1⟩, ⟨o2, k i2 (by simp) _ e2, r2⟩⟩
  item := by
    intro X hP hw hK hc i pins s σ H E I hf st hg
    subst hP hw hK
    obtain ⟨hl, hz, hI, ⟨a, b, hO⟩, h1, h2⟩ := st
    obtain ⟨l1, l2⟩ := hg
    have lz : z < s.heap.objs.size := Heap.lt_size hz
    have lI : TI < s.heap.objs.size := Heap.lt_size hI
    have lO : TO < s.heap.objs.size := Heap.lt_size hO
    have la : i1 < s.heap.objs.size := by obtain ⟨_, e, _⟩ := h1; exact Heap.lt_size e
    have lb : i2 < s.heap.objs.size := by obtain ⟨_, e, _⟩ := h2; exact Heap.lt_size e
    refine pyn_item Z (fun b hb => by cases List.mem_singleton.mp hb; exact ⟨Z.a3, Z.a8.symm, Z.a10⟩) (fun b hb => by cases List.mem_singleton.mp hb; exact ⟨Z.a4, Z.a9.symm, Z.a10.symm⟩) (dr_str x t i1) (dr_str y u i2) (I.ok.hd hc) hz hI hO h1 h2 l1 l2 fun h' tk v1 v2 p1 p2 y1 y2 y3 y4 y5 y6 => ?_
    obtain ⟨c, t1, hc1, rfl⟩ := p1
    obtain ⟨d, t2, hc2, rfl⟩ := p2
    refine ⟨_, rfl, wpAny_letOwnedTupleGo_zip (s := { s with heap := h', toks := tk }) y1 fun h'' z'' sb => ?_⟩
    have hT2 : h''.get? s.heap.objs.size = some { cls := .type "tuple", data := .seq #[.str ⟨#[c]⟩ t1, .str ⟨#[d]⟩ t2] } := (sb.2 _ (Nat.ne_of_gt lz)).trans y5
    have new : ObjOk X.prog X.w (upd H s.heap.objs.size (.tup [.str ⟨#[c]⟩, .str ⟨#[d]⟩])) h'' s.heap.objs.size (.tup [.str ⟨#[c]⟩, .str ⟨#[d]⟩]) :=
      ⟨by show 2 ≤ sizeLine; decide, [.str ⟨#[c]⟩ t1, .str ⟨#[d]⟩ t2], .cons ⟨_, rfl⟩ (.cons ⟨_, rfl⟩ .nil), ⟨_, hT2, rfl, _, rfl⟩⟩
    have I1 : Inv X pins σ (upd H s.heap.objs.size (.tup [.str ⟨#[c]⟩, .str ⟨#[d]⟩])) { s with heap := h'', toks := tk } :=
      I.turnedNew (t' := tk) (ch := [z, TI, TO, i1, i2]) (fun e o hb r => (sb.2 e (fun q' => hb (by simp [q']))).trans (y6 e o (fun q' => hb (by simp [q'])) (fun q' => hb (by simp [q'])) (fun q' => hb (by simp [q'])) (fun q' => hb (by simp [q'])) r)) hf (Nat.le_refl _) new
    have mv : ∀ e o, e ≠ z → h'.get? e = some o → h''.get? e = some o := fun e o ne r => (sb.2 e ne).trans r
    refine ⟨.ref s.heap.objs.size, _, I1, rfl, ⟨_, c, d, rfl, I.hok.fresh (Nat.le_refl _), rfl, hc1, hc2⟩, ⟨⟨l1, l2⟩, z'', mv _ _ Z.a1 (y6 _ _ Z.a1 Z.a5 Z.a6 Z.a7 hI), ⟨_, _, mv _ _ Z.a2 y2⟩, ?_, ?_⟩, fun e he => ?_⟩
    · obtain ⟨o, e, r⟩ := y3; exact ⟨o, mv _ _ Z.a3 e, r⟩
    · obtain ⟨o, e, r⟩ := y4; exact ⟨o, mv _ _ Z.a4 e, r⟩
    · have hlt : e < s.heap.objs.size := by
        have he' := he
        simp only [List.mem_cons, List.not_mem_nil, or_false] at he'
        rcases he' with rfl | rfl | rfl | rfl | rfl <;> assumption
      rw [upd_ne (Nat.ne_of_lt hlt)]
      exact (hf e he).1
  done := by
    intro X hP hw hK hc i pins s σ H E I hf st hg
    subst hP hw hK
    obtain ⟨⟨m1, m2⟩, hz, hI, ⟨a, b, hO⟩, h1, h2⟩ := st
    have he : i = x.cps.size ∨ (i < x.cps.size ∧ i = y.cps.size) := by
      have hg' : x.cps.size ≤ i ∨ y.cps.size ≤ i := hg
      omega
    exact pyn_end Z (fun b hb => by cases List.mem_singleton.mp hb; exact ⟨Z.a3, Z.a8.symm, Z.a10⟩) (fun b hb => by cases List.mem_singleton.mp hb; exact ⟨Z.a4, Z.a9.symm, Z.a10.symm⟩) (dr_str x t i1) (dr_str y u i2) (I.ok.hd hc) hz hI hO h1 h2 he fun h' tk hk => ⟨rfl, I.turnedL (t' := tk) (ch := [z, TI, TO, i1, i2]) (fun e o hb r =>
      hk e o (fun q' => hb (by simp [q'])) (fun q' => hb (by simp [q'])) (fun q' => hb (by simp [q'])) (fun q' => hb (by simp [q'])) r) hf⟩
  self := fun A i s Q E st h => wpAny_pyIter_zip st.2.1 h
/-- zip(x, y), both texts -/
def iZs (ta : TA) : TI := fun σ H R => ta σ H fun vs H1 => ∃ x y, vs = [.str x, .str y] ∧ R (ItzS x y) H1
theorem pi_zs {X : Cx} {e e2 : Expr} {ta : TA} {p pos tpos : Pos} {elts : List Expr} {kk : Nat} (hg : Gl X "zip") (hm : X.mg "zip" = none) (ha : PA X [e, e2] ta)
    (hs : starEach [e, e2] X.env = (false, eval e X.env) :: starEach [e2] X.env := by rfl) (hpl : (backTo pos (starEach [e2] X.env)).any (·.1) = false := by rfl) :
    PI X (.Tuple elts kk tpos) (.Call (.Name "zip" p) [e, e2] [] pos) (iZs ta) := by
  refine ⟨fun pins s σ H R I h => ?_⟩
  refine Call_ (ld_blt I hg hm PyProof.Rows.boot_zip (PyProof.Rows.callWith_type1 (thn (ha.run pos pins s σ H _ I h) fun us s1 ⟨vs, H1, I1, r1, q1⟩ => ?_) hs hpl))
  obtain ⟨x, y, ex, q1⟩ := q1
  subst ex
  cases r1 with
  | cons r rr =>
    cases rr with
    | cons r' rr =>
      cases rr
      obtain ⟨t, rfl⟩ := r
      obtain ⟨u, rfl⟩ := r'
      refine call_zs fun h' hz hI hO h1 h2 hk => wpAny_pyIter_zip hz ?_
      have I2 : Inv X pins σ H1 { s1 with heap := h' } := I1.kept (t' := s1.toks) hk
      have Z : ZA (s1.heap.objs.size + 4) (s1.heap.objs.size + 2) (s1.heap.objs.size + 3) s1.heap.objs.size (s1.heap.objs.size + 1) := by
        generalize s1.heap.objs.size = N
        exact ⟨Nat.ne_of_lt (by omega), Nat.ne_of_lt (by omega), Nat.ne_of_lt (by omega), Nat.ne_of_lt (by omega), Nat.ne_of_lt (by omega), Nat.ne_of_gt (by omega), Nat.ne_of_gt (by omega), Nat.ne_of_gt (by omega), Nat.ne_of_gt (by omega), Nat.ne_of_lt (by omega)⟩
      refine ⟨s1.heap.objs.size + 4, [s1.heap.objs.size + 4, s1.heap.objs.size + 2, s1.heap.objs.size + 3, s1.heap.objs.size, s1.heap.objs.size + 1], _, _, H1, rfl, I2, turn_zs Z, ⟨⟨Nat.zero_le _, Nat.zero_le _⟩, hz, hI, ⟨_, _, hO⟩, h1, h2⟩, fun c hc => ?_, q1⟩
      have hle : s1.heap.objs.size ≤ c := by
        simp only [List.mem_cons, List.not_mem_nil, or_false] at hc
        rcases hc with rfl | rfl | rfl | rfl | rfl
        · exact Nat.le_add_right _ _
        · exact Nat.le_add_right _ _
        · exact Nat.le_add_right _ _
        · exact Nat.le_refl _
        · exact Nat.le_add_right _ _
      exact I1.fpOk hle (I1.hok.fresh hle)
def zipS (x y : Str) : List PV := (x.cps.toList.zip y.cps.toList).map fun p => .tup [.str ⟨#[p.1]⟩, .str ⟨#[p.2]⟩]
theorem itd_zs {K : Kz} {w : Wd} {H : Hp} (x y : Str) : ItD K (ItzS x y) w H (zipS x y) where
  go := fun i w' H' e hi => by
    simp only [zipS, List.length_map, List.length_zip, Array.length_toList] at hi
    exact ⟨by omega, by omega⟩
  yld := fun i w' H' v H'' Z' e z k hi ⟨T, c, d, h1, h2, h3, h4, h5⟩ => by
    subst h1; subst h3
    refine ⟨.tup [.str ⟨#[c]⟩, .str ⟨#[d]⟩], ?_, Ext.new k h2, k.new h2, .tup (.inl ⟨k.off h2, k.nz h2, .inl upd_same⟩) (.cons (.str _) (.cons (.str _) .nil))⟩
    have e1 : x.cps.toList[i]? = some c := by rw [Array.getElem?_toList]; exact h4
    have e2 : y.cps.toList[i]? = some d := by rw [Array.getElem?_toList]; exact h5
    simp only [zipS, List.getElem?_map]
    have e3 : (x.cps.toList.zip y.cps.toList)[i]? = some (c, d) := List.getElem?_zip_eq_some.mpr ⟨e1, e2⟩
    rw [e3]
    rfl
  stop := fun w' H' e => by
    show x.cps.size ≤ (zipS x y).length ∨ y.cps.size ≤ (zipS x y).length
    simp only [zipS, List.length_map, List.length_zip, Array.length_toList]
    omega
def rZip (ds : List PV) (k : List PV → Prop) : Prop := match ds with
  | [.str x, .str y] => k (zipS x y)
  | _ => False
def wZip (ta : WA) : WI := fun ρ w Q => ta ρ w fun ds w1 => rZip ds fun xs => Q xs w1
theorem di_zip {X : Cx} {e e2 : Expr} {ta : WA} {p pos tpos : Pos} {elts : List Expr} {kk : Nat} (hg : Gl X "zip") (hm : X.mg "zip" = none) (ha : DA X [e, e2] ta)
    (hs : starEach [e, e2] X.env = (false, eval e X.env) :: starEach [e2] X.env := by rfl) (hpl : (backTo pos (starEach [e2] X.env)).any (·.1) = false := by rfl) :
    DI X (.Tuple elts kk tpos) (.Call (.Name "zip" p) [e, e2] [] pos) (wZip ta) :=
  pi_le (pi_zs hg hm ha hs hpl) fun σ H R ⟨Z, ρ, w, Q', r, h, k⟩ => upA1 r h fun vs H1 ds w1 e1 r1 n h1 => by
    unfold rZip at h1
    split at h1
    · obtain ⟨v, u, rfl, n1, n2⟩ := dall2 n
      cases n1; cases n2
      exact ⟨_, _, rfl, k _ _ _ _ e1 r1.wk (itd_zs _ _) h1⟩
    · exact h1.elim
end Pd

/-! sorted(list) of ints or of texts -/
namespace Pd
open PySem PySem.Spec PyProof.Rows L2
def rSrtS (K : PySem.W.Frag) : List V → Hp → VK → Prop := fun vs H Q => ∃ (a : Addr) (ss : List Str), vs = [V.ref a] ∧ SqL K H a (ss.map V.str) ∧
  ∀ (ss' : List Str) (p : Addr), ss'.Perm ss → sortedS ss' = true → H p = none → Q (.ref p) (upd H p (.lst (ss'.map V.str)))
section
variable {X : Cx}
theorem cr_srtS : CallR X (.builtin "sorted") (rSrtS X.K) := by
  intro pins s σ H vs us Q I r h
  obtain ⟨a, ss, rfl, hs, q⟩ := h
  obtain ⟨its, rv, hl, hz⟩ := I.list hs
  rw [Vals.ref1 r]
  refine sorted_strsAny hl.isList rv.strs (by rw [← rv.length]; exact hz) fun out ss' h1 h2 h3 => ?_
  obtain ⟨ep, he⟩ := PyProof.Rows.sortedAll_at s.heap its out
  have hlen : (ss'.map V.str).length ≤ sizeLine := by
    rw [List.length_map, h2.length_eq]
    rw [List.length_map] at hz
    exact hz
  exact ⟨.ref _, upd H (s.heap.objs.size + 1) (.lst (ss'.map V.str)), I.laid (t' := s.toks) (fun _ _ => PyProof.Rows.sortedAll_old) (Nat.le_succ _) ⟨hlen, out.toList, ep, vals_of_strs h1, by simpa using he⟩, rfl, q _ _ h2 h3 (I.hok.fresh (Nat.le_succ _))⟩
theorem dn_strs_eq {K : Kz} {w : Wd} {H : Hp} : ∀ {ss : List Str} {vs : List V}, DnAll K w H vs (ss.map PV.str) → vs = ss.map V.str
  | [], _, .nil => rfl
  | n :: r, _, .cons h t => by cases h; rw [dn_strs_eq t]; rfl
theorem strs_dn {K : Kz} {w : Wd} {H : Hp} : ∀ ss : List Str, DnAll K w H (ss.map V.str) (ss.map PV.str)
  | [] => .nil
  | n :: r => .cons (.str n) (strs_dn r)
theorem ints_dn {K : Kz} {w : Wd} {H : Hp} : ∀ ns : List Int, DnAll K w H (ns.map V.int) (ns.map PV.int)
  | [] => .nil
  | n :: r => .cons (.int n) (ints_dn r)
def cSorted : RcD := fun ds w Q => ∃ es, ds = [.lst es] ∧ ((∃ ns : List Int, es = ns.map PV.int ∧ ∀ ns' : List Int, ns'.Perm ns → ns'.Pairwise (· ≤ ·) → Q (.lst (ns'.map PV.int)) w) ∨
  ∃ ss : List Str, es = ss.map PV.str ∧ ∀ ss' : List Str, ss'.Perm ss → sortedS ss' = true → Q (.lst (ss'.map PV.str)) w)
theorem ca_sorted : CaD X (.builtin "sorted") cSorted := by
  refine ⟨_, cr_sortedI.or cr_srtS, fun Z xs H ds w Q' Q k n h kq => ?_⟩
  obtain ⟨es, rfl, h⟩ := h
  obtain ⟨v, rfl, n1⟩ := dall1 n
  cases n1 with
  | lst hL hA =>
    rcases h with ⟨ns, rfl, h⟩ | ⟨ss, rfl, h⟩
    · cases dn_ints_eq hA
      exact .inl ⟨_, ns, rfl, hL.sq, fun ns' p h1 h2 hp => kq _ _ (post_lst k hp (ints_dn ns') (h ns' h1 h2))⟩
    · cases dn_strs_eq hA
      exact .inr ⟨_, ss, rfl, hL.sq, fun ss' p h1 h2 hp => kq _ _ (post_lst k hp (strs_dn ss') (h ss' h1 h2))⟩
end
end Pd

/-! {k: e, ..}[x]: written keys, any values -/
namespace Pd
open PySem L2
def wVals : List (Key × WE) → Sl → Wd → (List (Key × PV) → Wd → Prop) → Prop
  | [], _, w, Q => Q [] w
  | (k, t) :: r, ρ, w, Q => t ρ w fun d w1 => wVals r ρ w1 fun kvs w2 => Q ((k, d) :: kvs) w2
def wIxV (kts : List (Key × WE)) (te : WE) : WE := fun ρ w Q => wVals kts ρ w fun kvs w1 => te ρ w1 fun y w2 => rIxD kvs y w2 Q
inductive DisV (X : Cx) : List (Option Expr) → List Expr → List (Key × WE) → Prop
  | nil : DisV X [] [] []
  | cons {k v : Expr} {kk : Key} {t : WE} {ks : List (Option Expr)} {vs : List Expr} {kts : List (Key × WE)} : PE X k (tC (kV kk)) → DE X v t → DisV X ks vs kts → DisV X (some k :: ks) (v :: vs) ((kk, t) :: kts)
theorem DisV.pps {X : Cx} {pos : Pos} {ks : List (Option Expr)} {vs : List Expr} {kts : List (Key × WE)} (h : DisV X ks vs kts) : PPs X pos ks vs (kts.map fun kt => (tC (kV kt.1), upE (fw X) kt.2)) := by
  induction h with
  | nil => exact pps_nil
  | cons h1 h2 _ ih => exact pps_cons h1 h2 ih
theorem DisV.len {X : Cx} {ks : List (Option Expr)} {vs : List Expr} {kts : List (Key × WE)} (h : DisV X ks vs kts) : ks.length = vs.length ∧ ks.length = kts.length ∧ ks.all (·.isSome) = true := by
  induction h with
  | nil => exact ⟨rfl, rfl, rfl⟩
  | cons _ _ _ ih => exact ⟨by simp [ih.1], by simp [ih.2.1], by simpa using ih.2.2⟩
theorem tPairs_v {K : Fw} {Z : Addr → Prop} {ρ : Sl} {σ : St} : ∀ (kts : List (Key × WE)) {w : Wd} {H : Hp} {Q' : List (Key × PV) → Wd → Prop} {R : List (V × V) → Hp → Prop}, Rep ⟨K, Z⟩ ρ w σ H → wVals kts ρ w Q' →
    (∀ (kvs : List (Key × PV)) (kvv : List (Key × V)) w1 H1, Ext w H w1 H1 → Wk ⟨K, Z⟩ w1 H1 → kvs.map (·.1) = kts.map (·.1) → kvv.map (·.1) = kts.map (·.1) → DnAll ⟨K, Z⟩ w1 H1 (kvv.map (·.2)) (kvs.map (·.2)) → Q' kvs w1 → R (kvv.map fun kv => (kV kv.1, kv.2)) H1) →
    tPairs (kts.map fun kt => (tC (kV kt.1), upE K kt.2)) σ H R
  | [], w, H, Q', R, r, h, k => k [] [] w H (Ext.refl _ _) r.wk rfl rfl .nil h
  | (kk, t) :: rest, w, H, Q', R, r, h, k => by
    show upE K t σ H _
    refine up1 r h fun y H2 dy w2 e2 r2 n2 h2 => ?_
    refine tPairs_v rest r2 h2 fun kvs kvv w3 H3 e3 k3 q1 q2 n3 h3 => ?_
    exact k ((kk, dy) :: kvs) ((kk, y) :: kvv) w3 H3 (e2.trans e3) k3 (by simp [q1]) (by simp [q2]) (.cons (n2.ext e3) n3) h3
theorem val_dn {K : Kz} {w : Wd} {H : Hp} {k : Key} {d : PV} : ∀ {kvs : List (Key × PV)} {kvv : List (Key × V)}, kvs.map (·.1) = kvv.map (·.1) → DnAll K w H (kvv.map (·.2)) (kvs.map (·.2)) → valP kvs k = some d → ∃ v, valV kvv k = some v ∧ Dn K w H v d
  | [], [], _, _, h => by simp [valP] at h
  | (a, x) :: r, (b, y) :: s, e, n, h => by
    simp only [List.map_cons, List.cons.injEq] at e
    obtain ⟨e1, e2⟩ := e
    have e1 : a = b := e1
    subst e1
    cases n with
    | cons n1 n2 =>
      by_cases q : a = k
      · subst q
        have : x = d := by simpa [valP] using h
        subst this
        exact ⟨y, by simp [valV], n1⟩
      · have h' : valP r k = some d := by simpa [valP, List.find?_cons, q] using h
        obtain ⟨v, h1, h2⟩ := val_dn e2 n2 h'
        exact ⟨v, by simpa [valV, List.find?_cons, q] using h1, h2⟩
  | [], _ :: _, e, _, _ => by simp at e
  | _ :: _, [], e, _, _ => by simp at e
theorem merge_new : ∀ (more acc : List (Key × V)), ((acc ++ more).map (·.1)).Nodup → mergeK acc more = acc ++ more
  | [], acc, _ => by simp [mergeK]
  | (k, v) :: r, acc, h => by
    have hk : (acc.any fun kv => decide (kv.1 = k)) = false := by
      rw [List.any_eq_false]
      intro kv hkv q
      have q : kv.1 = k := of_decide_eq_true q
      rw [List.map_append, List.nodup_append] at h
      exact h.2.2 kv.1 (List.mem_map.mpr ⟨kv, hkv, rfl⟩) k (by simp) q
    have e : putK acc k v = acc ++ [(k, v)] := by unfold putK; rw [hk]; simp
    have : mergeK acc ((k, v) :: r) = mergeK (putK acc k v) r := rfl
    rw [this, e, merge_new r (acc ++ [(k, v)]) (by simpa using h)]
    simp
section
variable {X : Cx} {keys : List (Option Expr)} {values : List Expr} {kts : List (Key × WE)} {e : Expr} {te : WE} {pos cpos : Pos}
theorem de_ixV (hu : X.A.units + 64 < cLine) (hd : DisV X keys values kts) (he : DE X e te) (hs : NoSl e) (h0 : keys ≠ [] := by exact fun z => nomatch z) (h15 : keys.length ≤ 15 := by decide) (hm : (kts.map (·.1)).Nodup := by decide) :
    DE X (.Subscript (.Dict keys values pos) e cpos) (wIxV kts te) := by
  refine pe_le (pe_dget (by omega) (pe_disp hd.pps hd.len.2.2 hd.len.1 h0 h15) he hs) fun σ H Q ⟨Z, ρ, w, Q', r, h, k⟩ => ?_
  intro p hp
  have zx : Zx ⟨fw X, Z⟩ H (zAdd Z p) := fun b q => q.elim .inl fun e => .inr (by rw [e]; exact hp)
  have zp : (⟨fw X, zAdd Z p⟩ : Kz).Z p := .inr rfl
  have e0 : Ext w H w (upd H p (.dK [])) := Ext.new r.wk hp
  have r0 : Rep ⟨fw X, zAdd Z p⟩ ρ w σ (upd H p (.dK [])) := ⟨r.len, fun j d hj => by
    obtain ⟨v, q3, q4⟩ := r.sl j d hj
    exact ⟨v, q3, (q4.hide zx).ext e0⟩, r.wk.hid hp⟩
  refine tPairs_v kts r0 h fun kvs kvv w1 H1 e1 k1 q1 q2 n1 h1 => ?_
  have hpw : w p = none := r.wk.off hp
  have hp1 : H1 p = some (.dK []) := (e1 p _ hpw upd_same).2
  have hl : kvv.length ≤ 15 := by
    have := congrArg List.length q2
    simp only [List.length_map] at this
    rw [this, ← hd.len.2.1]; exact h15
  refine ⟨hp1, kvv, rfl, hl, ?_⟩
  have hme : mergeK [] kvv = kvv := by
    have := merge_new kvv [] (by simpa [q2] using hm)
    simpa using this
  rw [hme]
  have e2 : Ext w H w1 (upd H1 p (.dK kvv)) := Ext.updN r.wk (e0.trans e1) hp
  have k2 : Wk ⟨fw X, zAdd Z p⟩ w1 (upd H1 p (.dK kvv)) := k1.upd zp
  have r2 : Rep ⟨fw X, zAdd Z p⟩ ρ w1 σ (upd H1 p (.dK kvv)) := ⟨r.len, fun j d hj => by
    obtain ⟨v, q3, q4⟩ := r.sl j d hj
    exact ⟨v, q3, (q4.hide zx).ext e2⟩, k2⟩
  refine up1 r2 h1 fun y H3 dy w3 e3 r3 n3 h3 => ?_
  obtain ⟨kk, rfl, d, hd', q⟩ := onKey_at n3 h3
  have hpw1 : w1 p = none := (k2.zin p zp).1
  have hH3 : H3 p = some (.dK kvv) := (e3 p _ hpw1 upd_same).2
  obtain ⟨v, hv, hn⟩ := val_dn (q1.trans q2.symm) n1 hd'
  refine ⟨p, v, rfl, ?_, ?_⟩
  · have := DGet.k (k := kk) hH3
    rwa [hv] at this
  · have n4 : Dn ⟨fw X, zAdd Z p⟩ w3 H3 v d := (hn.upd zp).ext e3
    exact k _ _ (post_trans (e2.trans e3) (post_same (r3.wk.less (Z' := Z) fun b q => Or.inl q) (n4.less (Z' := Z) fun b q => Or.inl q) q))
end
end Pd

/-! list(reversed(list)) -/
namespace Pd
open PySem L2 PyProof.Rows RT
section
variable {prog : Program} {w : World} {A : Around} {E : Value → Shared → Prop} {s : Shared} {it l S : Addr} {its : Array Value}
theorem ext_lr {R : Result → Shared → Prop} (hh : A.handled = none) (hit : s.heap.IsRevIter it l ((its.size : Int) - 1)) (hl : s.heap.IsList l its) (n1 : l ≠ it) (n2 : S ≠ it) (n3 : S ≠ l) (hn : its.size ≤ sizeLine) (c : Nat) (hS : s.heap.get? S = some { cls := .type "list", data := .seq #[] c })
    (q : ∀ h' tk acc c', (∀ b o, b ≠ S → b ≠ it → s.heap.get? b = some o → h'.get? b = some o) → h'.get? S = some { cls := .type "list", dict := none, data := .seq acc c', slots := #[] } → ItemsOf (fun i v => its[its.size - 1 - i]? = some v) acc its.size → R (.ok (.ret .none)) { s with heap := h', toks := tk }) :
    wpAny (model prog w) A.in1 (Builtin.List.listExtendWith (.ref S) (.ref it) .none)
      (fun fin s' => match fin with | .done f => R (.ok f) s' | .again c' => c'.quiet = true ∧ codeAny (model prog w) A c' R s') (fun e s' => R (.error e) s') s := by
  have W := (Walks.listRev (prog := prog) (w := w) (A := A.in1) hh it l n1 its).toS
  have hT : s.TypeIs (.ref it) "list_reverseiterator" := hit.typeIs
  have g3 : Builtin.List.listSameRef (.ref S) (.ref it) = false := by simp [Builtin.List.listSameRef, n2]
  have hSf : S ∉ [it, l] := by simp only [List.mem_cons, List.not_mem_nil, or_false, not_or]; exact ⟨n2, n3⟩
  unfold Builtin.List.listExtendWith
  refine wpAny_bind (wpAny_typeOf hT ?_)
  rw [if_neg (by rw [g3]; decide)]
  refine wpAny_bind (wpAny_pyIter_revIter hit ?_)
  refine wpAny_bind (wpAny_holding ?_)
  unfold Builtin.List.listLengthHint
  refine wpAny_bind (wpAny_specialOf hT nolen_lri ?_)
  show wpAny _ A.in1 (specialOf (Value.ref it) (Str.ofString "__length_hint__") >>= _) _ _ _
  refine wpAny_bind (wpAny_specialOf hT hint_lri ?_)
  generalize hid : ("list_reverseiterator.__length_hint__" : String) = id0
  wp_delta
  rw [show splitId id0 = some ("list_reverseiterator", "__length_hint__") from by subst hid; decide +kernel]
  subst hid
  refine wpAny_bind (wpAny_isInstance (b := true) hT (by rw [isSubtype_type]; kernel_rfl) ?_)
  refine wpAny_pure ?_
  rw [if_neg (by decide)]
  have e0 : ((its.size : Nat) : Int) - 1 - ((0 : Nat) : Int) = (its.size : Int) - 1 := by omega
  refine wpAny_pure ⟨plainId_quiet F.plain_extend_loop _, codeAny_extend_loopS W hn _ hSf _ its.size 0 _ _ _ rfl (Nat.zero_le _) ⟨Nat.zero_le _, by rw [e0]; exact hit, hl⟩ hS (ItemsOf.nil _) fun s' acc c' hm hS' hacc => ?_⟩
  rw [Moved.eq_with hm]
  refine q s'.heap s'.toks acc c' (fun b o h1 h2 e => hm.heap b o (fun hmem => ?_) e) hS' hacc
  rcases List.mem_cons.mp hmem with z | z
  · exact h1 z
  · exact h2 (List.mem_singleton.mp z)
theorem call_lr {Q : Value → Shared → Prop} (hh : A.handled = none) (hit : s.heap.IsRevIter it l ((its.size : Int) - 1)) (hl : s.heap.IsList l its) (n1 : l ≠ it) (hn : its.size ≤ sizeLine)
    (q : ∀ h' tk acc c', (∀ b o, b ≠ it → s.heap.get? b = some o → h'.get? b = some o) → h'.get? s.heap.objs.size = some { cls := .type "list", dict := none, data := .seq acc c', slots := #[] } → ItemsOf (fun i v => its[its.size - 1 - i]? = some v) acc its.size → Q (.ref s.heap.objs.size) { s with heap := h', toks := tk }) :
    wpAny (model prog w) A (call (.type "list") [.ref it]) Q E s := by
  obtain ⟨oi, hoi, _⟩ := id hit
  obtain ⟨ol, hol, _⟩ := id hl
  have n2 : s.heap.objs.size ≠ it := Nat.ne_of_gt (Heap.lt_size hoi)
  have n3 : s.heap.objs.size ≠ l := Nat.ne_of_gt (Heap.lt_size hol)
  refine callType_codes (Q₁ := fun obj s₁ => obj = .ref s.heap.objs.size ∧ s₁ = { s with heap := s.heap.push { cls := .type "list", data := .seq #[] } }) F.called_list (F.typeCall_list_1 _) F.entry_list_init (code_list_new _ ⟨rfl, rfl⟩) fun obj s₁ h₁ => ?_
  obtain ⟨rfl, rfl⟩ := h₁
  have g0 : (s.heap.push { cls := .type "list", data := .seq #[] }).get? s.heap.objs.size = some { cls := .type "list", data := .seq #[] } := Heap.get?_push_size _ rfl
  refine ⟨⟨_, g0, rfl⟩, F.args_list_init_2 _ _, ?_⟩
  show wpAny _ A.in1.in1 (do let old ← Builtin.List.listItems (.ref s.heap.objs.size); Builtin.List.listUpdate (.ref s.heap.objs.size) (fun _ => #[]); letGo old.toList.reverse; Builtin.List.listExtendWith (.ref s.heap.objs.size) (.ref it) .none) _ _ _
  refine wpAny_bind ?_
  unfold Builtin.List.listItems
  refine wpAny_bind (wpAny_seqItems g0 rfl (wpAny_pure ?_))
  show wpAny _ _ (updateSeq s.heap.objs.size (fun _ => #[]) >>= fun _ => letGo (#[] : Array Value).toList.reverse >>= fun _ => Builtin.List.listExtendWith (.ref s.heap.objs.size) (.ref it) .none) _ _ _
  refine wpAny_bind (wpAny_updateSeq g0 rfl ?_)
  have g2 := Heap.get?_update_self (Obj.mapSeq (fun _ => (#[] : Array Value))) g0 rfl
  have oth : ∀ b o, s.heap.get? b = some o → ((s.heap.push { cls := .type "list", data := .seq #[] }).update s.heap.objs.size (Obj.mapSeq (fun _ => (#[] : Array Value)))).get? b = some o :=
    fun b o e => (Heap.get?_update_other _ _ (Ne.symm (Nat.ne_of_lt (Heap.lt_size e)))).trans (Heap.get?_push_of_some _ e)
  refine wpAny_bind (wpAny_letGo ?_)
  refine ext_lr (A := A.in1) hh (hit.at fun o e => oth _ o e) (hl.at fun o e => oth _ o e) n1 n2 n3 hn _ g2 fun h' tk acc c' hk hS' hacc => ?_
  exact ⟨rfl, q h' tk acc c' (fun b o h1 e => hk b o (Nat.ne_of_lt (Heap.lt_size e)) h1 (oth b o e)) hS' hacc⟩
end
end Pd
namespace Pd
open PySem L2 PyProof.Rows RT
section
variable {X : Cx}
def tLRev (K : Frag) (te : TE) : TE := fun σ H Q => te σ H fun v H1 => ∃ (a : Addr) (xs : List V), v = .ref a ∧ SqL K H1 a xs ∧ ∀ q, H1 q = none → Q (.ref q) (upd H1 q (.lst xs.reverse))
theorem pe_lRev {e : Expr} {te : TE} {p p2 pos pos2 : Pos} (hc : X.calm = true) (hg : Gl X "list") (hm : X.mg "list" = none) (hg2 : Gl X "reversed") (hm2 : X.mg "reversed" = none) (he : PE X e te) (hs : starEach [e] X.env = (false, eval e X.env) :: starEach [] X.env := by rfl)
    (hs2 : starEach [.Call (.Name "reversed" p2) [e] [] pos2] X.env = (false, eval (.Call (.Name "reversed" p2) [e] [] pos2) X.env) :: starEach [] X.env := by rfl) :
    PE X (.Call (.Name "list" p) [.Call (.Name "reversed" p2) [e] [] pos2] [] pos) (tLRev X.K te) := by
  refine ⟨fun pins s σ H Q I h => ?_⟩
  refine Call_ (ld_blt I hg hm (show bootBuiltins "list" = some (.type "list") by decide +kernel) (PyProof.Rows.callWith_type1 (args_cons (Call_ (ld_blt I hg2 hm2 PyProof.Rows.boot_reversed (PyProof.Rows.callWith_type1 (args_cons (thn (he.run pins s σ H _ I h) fun u s1 ⟨v, H1, I1, r1, q1⟩ => args_nil ?_) hs) hs rfl))) hs2) hs2 rfl))
  obtain ⟨a, xs, rfl, hq, q⟩ := q1
  obtain rfl : u = Value.ref a := r1
  obtain ⟨f0, f1, f2, f3, f4, f5⟩ := I1.fpOk (H' := H1) (b := s1.heap.objs.size) (Nat.le_refl _) (I1.hok.fresh (Nat.le_refl _))
  obtain ⟨its, rv, pl, hz⟩ := I1.list hq
  have hl := pl.isList
  obtain ⟨ol, hol, _⟩ := id hl
  have ne : a ≠ s1.heap.objs.size := Nat.ne_of_lt (Heap.lt_size hol)
  have hn : its.toArray.size ≤ sizeLine := by rw [List.size_toArray, ← rv.length]; exact hz
  refine call_reversed_list hl (args_nil ?_)
  have I2 : Inv X pins σ H1 { s1 with heap := s1.heap.push (revObj a ((its.toArray.size : Int) - 1)) } := I1.kept (t' := s1.toks) fun b o e => Heap.get?_push_of_some _ e
  have sz : (s1.heap.push (revObj a ((its.toArray.size : Int) - 1))).objs.size = s1.heap.objs.size + 1 := Heap.size_push ..
  refine call_lr (s := { s1 with heap := s1.heap.push (revObj a ((its.toArray.size : Int) - 1)) }) (I1.ok.hd hc) ⟨_, Heap.get?_push_size _ rfl, rfl, rfl⟩ (hl.push _) ne hn fun h' tk acc c' hk hS hi => ?_
  have I3 : Inv X pins σ H1 { s1 with heap := h', toks := tk } := I2.turned (t' := tk) (fun b o hb e => hk b o hb e) f0 f1 f3 f4 f5
  have hfr : H1 (s1.heap.objs.size + 1) = none := I1.hok.fresh (Nat.le_succ _)
  refine ⟨.ref _, upd H1 (s1.heap.push (revObj a ((its.toArray.size : Int) - 1))).objs.size (.lst xs.reverse), ?_, rfl, q _ (by rw [sz]; exact hfr)⟩
  refine I2.turnedNew (t' := tk) (ch := [s1.heap.objs.size]) (fun b o hb e => hk b o (fun z => hb (by simp [z])) e) (fun b hb => ?_) (Nat.le_refl _) ⟨by rw [List.length_reverse]; exact hz, acc.toList, c', vals_rev rv hi, by simpa using hS⟩
  have : b = s1.heap.objs.size := by simpa using hb
  subst this
  exact ⟨f0, f1, f2, f3, f4, f5⟩
end
end Pd
namespace Pd
open PySem L2
section
variable {X : Cx}
def rLRev (x : PV) (w : Wd) (Q : WQ) : Prop := match x with
  | .lst ds => Q (.lst ds.reverse) w
  | _ => False
def wLRev (te : WE) : WE := fun ρ w Q => te ρ w fun x w1 => rLRev x w1 Q
theorem de_lRev {e : Expr} {te : WE} {p p2 pos pos2 : Pos} (hc : X.calm = true) (hg : Gl X "list") (hm : X.mg "list" = none) (hg2 : Gl X "reversed") (hm2 : X.mg "reversed" = none) (he : DE X e te) (hs : starEach [e] X.env = (false, eval e X.env) :: starEach [] X.env := by rfl)
    (hs2 : starEach [.Call (.Name "reversed" p2) [e] [] pos2] X.env = (false, eval (.Call (.Name "reversed" p2) [e] [] pos2) X.env) :: starEach [] X.env := by rfl) :
    DE X (.Call (.Name "list" p) [.Call (.Name "reversed" p2) [e] [] pos2] [] pos) (wLRev te) :=
  pe_le (pe_lRev hc hg hm hg2 hm2 he hs hs2) fun σ H Q ⟨Z, ρ, w, Q', r, h, k⟩ => up1 r h fun x H1 d w1 e1 r1 n h1 => by
    cases n with
    | lst hL hA => exact ⟨_, _, rfl, hL.sq, fun q hq => k _ _ (post_trans e1 (post_lst r1.wk hq (dn_rev hA) h1))⟩
    | _ => exact h1.elim
end
end Pd

/-! enumerate(list), enumerate(tuple) -/
namespace Pd
open PySem L2 PyProof.Rows RT
theorem meets_enum1 {v : Value} {o : Obj} {H : Heap → Prop} (B : Begins v o H) :
    Meets (Builtin.«enumerate.__new__» ⟨[.type "enumerate", v], []⟩) (fun _ R s => H s.heap ∧
      R (.ok (.ret (.ref (s.heap.push o).objs.size))) { s with heap := (s.heap.push o).push { cls := .type "enumerate", data := .fields #[.none, .bool false, .ref s.heap.objs.size, rawInt 0, .none, .none] } }) :=
  .of_wp fun prog w A R s h => by
    obtain ⟨hp, g, d, tk, os⟩ := s; obtain ⟨h1, h⟩ := h
    have hsub := sub_enumerate
    have q1 : ∀ {A' : Around} {E : Value → Shared → Prop} {Q : Value → Shared → Prop}, Q (.ref hp.objs.size) ⟨hp.push o, g, d, tk, os⟩ → wpAny (model prog w) A' (pyIter v) Q E ⟨hp, g, d, tk, os⟩ :=
      fun q => B.iter prog w _ _ ⟨hp, g, d, tk, os⟩ _ h1 q
    wp_walk using q1
    refine wpAny_stack_any fun st => wpAny_pure ?_
    split
    · rename_i c _ _ _ _ _
      cases (c == Value.type "enumerate")
      · wp_walk using q1
        exact ⟨_, rfl, h⟩
      · wp_walk using q1
        exact ⟨_, rfl, h⟩
    · wp_walk using q1
      exact ⟨_, rfl, h⟩
section
variable {prog : Program} {w : World} {A : Around} {E : Value → Shared → Prop} {s : Shared}
theorem call_enumT {l : Addr} {items : Array Value} {Q : Value → Shared → Prop} (hL : s.heap.IsTuple l items)
    (h : ∀ h', IsEnum h' (s.heap.objs.size + 1) s.heap.objs.size 0 .none → h'.IsTupleIter s.heap.objs.size l 0 → h'.objs.size = s.heap.objs.size + 2 →
      (∀ b o, s.heap.get? b = some o → h'.get? b = some o) → Q (.ref (s.heap.objs.size + 1)) { s with heap := h' }) :
    wpAny (model prog w) A (call (.type "enumerate") [.ref l]) Q E s := by
  refine callType_new F.called_enumerate (by decide) (F.typeCall_enumerate_1 _) (F.newCall_enumerate_1 _) (fun obj => F.args_object_init_2 obj _) F.entry_enumerate_new
    (meets_enum1 (begins_tuple l items)) ⟨hL, ?_⟩
  have hz : (s.heap.push { cls := .type "tuple_iterator", data := .fields #[.ref l, .int 0 0] }).objs.size = s.heap.objs.size + 1 := Heap.size_push ..
  show _ ∧ _
  rw [hz]
  have he : IsEnum ((s.heap.push { cls := .type "tuple_iterator", data := .fields #[.ref l, .int 0 0] }).push
      { cls := .type "enumerate", data := .fields #[.none, .bool false, .ref s.heap.objs.size, rawInt 0, .none, .none] }) (s.heap.objs.size + 1) s.heap.objs.size 0 .none := by
    have := Heap.get?_push_size (s.heap.push { cls := .type "tuple_iterator", data := .fields #[.ref l, .int 0 0] })
      (o := { cls := .type "enumerate", data := .fields #[.none, .bool false, .ref s.heap.objs.size, rawInt 0, .none, .none] }) rfl
    rw [hz] at this; exact this
  refine ⟨⟨_, he, rfl⟩, h _ he ⟨_, Heap.get?_push_of_some _ (Heap.get?_push_size _ rfl), rfl, rfl⟩ (by rw [Heap.size_push, hz]) fun b o x => Heap.get?_push_of_some _ (Heap.get?_push_of_some _ x)⟩
end
/-- the tuple at a, each item in a new pair -/
def IteT (K : PySem.W.Frag) (a : Addr) : It :=
  ⟨fun i H => ∃ (xs : List V) (x : V), SqT K H a xs ∧ xs[i]? = some x, fun i H v H' => ∃ T x, v = .ref T ∧ H T = none ∧ H' = upd H T (.tup [.int (i : Nat), x]) ∧ ∀ xs, SqT K H a xs → xs[i]? = some x, fun i H => ∃ xs : List V, SqT K H a xs ∧ xs.length = i⟩
theorem turn_enumT {P : Program} {w : World} {K : PySem.W.Frag} {elts : List Expr} {kk : Nat} {tpos : Pos} (a e it : Addr) (hai : a ≠ it) (hea : e ≠ a) :
    Turn P w K (.Tuple elts kk tpos) (IteT K a) [e, it] e (fun i h => (∃ old, IsEnum h e it ((i : Nat) : Int) old) ∧ h.IsTupleIter it a i ∧ e ≠ it) where
  mem := by simp
  obj := fun i h st b hb => by
    obtain ⟨⟨old, he⟩, ⟨o, ho, hc, hd⟩, _⟩ := st
    have e' : b = e ∨ b = it := by simpa using hb
    rcases e' with z | z
    · rw [z]; exact ⟨_, he, fun v q => nomatch q⟩
    · rw [z]; exact ⟨o, ho, fun v q => by rw [hd] at q; cases q⟩
  keep := fun i h h' st k => let ⟨⟨old, he⟩, hi, hne⟩ := st; ⟨⟨old, k e (by simp) _ he⟩, hi.at fun o q => k it (by simp) o q, hne⟩
  item := by
    intro X hP hw hK hc i pins s σ H E I hf st hg
    subst hP hw hK
    obtain ⟨⟨old, he⟩, hit, hne⟩ := st
    obtain ⟨xs, x, hq, hx⟩ := hg
    obtain ⟨its, rv, p, hz⟩ := I.tuple hq
    obtain ⟨u, hu, ru⟩ := rv.get hx
    have hel : e < s.heap.objs.size := Heap.lt_size he
    have hil : it < s.heap.objs.size := by obtain ⟨_, q, _⟩ := hit; exact Heap.lt_size q
    have hlt : i < its.toArray.size := by
      rcases Nat.lt_or_ge i its.length with q | q
      · simpa using q
      · rw [List.getElem?_eq_none q] at hu; cases hu
    refine wpAny_pyNext_enum_itemD (Draws.tuple (show X.A.in1.handled = none from I.ok.hd hc) it a hai its.toArray) he ⟨hit, (show s.heap.IsTuple a its.toArray from p)⟩ hlt hne (by simp [hne, hea]) fun u' h' tk hp ho hit' hT hsz hk => ?_
    have e0 : u' = u := by
      have : its[i]? = some u' := by simpa using hp
      rw [hu] at this; cases this; rfl
    subst e0
    refine ⟨_, rfl, wpAny_letOwnedTupleGo_enum (s := { s with heap := h', toks := tk + 1 }) ho fun h'' he' sb => ?_⟩
    have hT2 : h''.get? s.heap.objs.size = some { cls := .type "tuple", data := .seq #[.int i tk, u'] } := (sb.2 _ (Nat.ne_of_gt hel)).trans hT
    have new : ObjOk X.prog X.w (upd H s.heap.objs.size (.tup [.int (i : Nat), x])) h'' s.heap.objs.size (.tup [.int (i : Nat), x]) :=
      ⟨by show 2 ≤ sizeLine; decide, [.int i tk, u'], .cons ⟨_, rfl⟩ (.cons ru .nil), ⟨_, hT2, rfl, _, rfl⟩⟩
    have I1 : Inv X pins σ (upd H s.heap.objs.size (.tup [.int (i : Nat), x])) { s with heap := h'', toks := tk + 1 } :=
      I.turnedNew (t' := tk + 1) (ch := [e, it]) (fun b ob hb q => (sb.2 b (fun z => hb (by simp [z]))).trans (hk b ob (fun z => hb (by simp [z])) (fun z => hb (by simp [z])) q)) hf (Nat.le_refl _) new
    refine ⟨.ref s.heap.objs.size, _, I1, rfl, ⟨_, x, rfl, I.hok.fresh (Nat.le_refl _), rfl, fun ys hy => by rw [I.tuple_inj hy hq]; exact hx⟩, ⟨⟨u', ?_⟩, hit'.1.at fun o q => (sb.2 it (Ne.symm hne)).trans q, hne⟩, fun b hb => ?_⟩
    · have e1 : ((i + 1 : Nat) : Int) = (i : Int) + 1 := by omega
      rw [e1]; exact he'
    · have hb' : b < s.heap.objs.size := by
        have e' : b = e ∨ b = it := by simpa using hb
        rcases e' with z | z
        · rw [z]; exact hel
        · rw [z]; exact hil
      rw [upd_ne (Nat.ne_of_lt hb')]
      exact (hf b hb).1
  done := by
    intro X hP hw hK hc i pins s σ H E I hf st hg
    subst hP hw hK
    obtain ⟨⟨old, he⟩, hit, hne⟩ := st
    obtain ⟨xs, hq, hx⟩ := hg
    obtain ⟨its, rv, p, hz⟩ := I.tuple hq
    obtain ⟨f0, f1, f2, f3, f4, f5⟩ := hf it (by simp)
    have hl := rv.length
    have ei : i = its.toArray.size := by simp; omega
    subst ei
    exact wpAny_pyNext_enum_endD (Draws.tuple (show X.A.in1.handled = none from I.ok.hd hc) it a hai its.toArray) he ⟨hit, (show s.heap.IsTuple a its.toArray from p)⟩ fun h' eb => ⟨rfl, I.turned (t' := s.toks) (fun b o hb q => eb b o hb q) f0 f1 f3 f4 f5⟩
  self := fun A i s Q E st h => let ⟨⟨_, he⟩, _⟩ := st; wpAny_pyIter_enum he h
def iEnumT (K : PySem.W.Frag) (ta : TA) : TI := fun σ H R => ta σ H fun vs H1 => ∃ a xs, vs = [.ref a] ∧ ((SqL K H1 a xs ∧ R (Ite K a) H1) ∨ (SqT K H1 a xs ∧ R (IteT K a) H1))
theorem pi_enumT {X : Cx} {e : Expr} {ta : TA} {p pos tpos : Pos} {elts : List Expr} {kk : Nat} (hg : Gl X "enumerate") (hm : X.mg "enumerate" = none) (ha : PA X [e] ta) (hs : starEach [e] X.env = [(false, eval e X.env)] := by rfl) :
    PI X (.Tuple elts kk tpos) (.Call (.Name "enumerate" p) [e] [] pos) (iEnumT X.K ta) := by
  refine ⟨fun pins s σ H R I h => ?_⟩
  refine Call_ (ld_blt I hg hm boot_enumerate (PyProof.Rows.callWith_type1 (thn (ha.run pos pins s σ H _ I h) fun us s1 ⟨vs, H1, I1, r1, q1⟩ => ?_) hs rfl))
  obtain ⟨a, xs, ex, q⟩ := q1
  subst ex
  cases r1 with
  | cons r rr =>
    cases rr
    cases r
    have new : ∀ b, b = s1.heap.objs.size + 1 ∨ b = s1.heap.objs.size → FpOk X pins H1 b := fun b e' => by
      have hle : s1.heap.objs.size ≤ b := by
        rcases e' with z | z
        · rw [z]; exact Nat.le_add_right _ _
        · rw [z]; exact Nat.le_refl _
      exact I1.fpOk hle (I1.hok.fresh hle)
    rcases q with ⟨hq, q⟩ | ⟨hq, q⟩
    · obtain ⟨its, rv, p', hz⟩ := I1.list hq
      refine call_enumerate_list p'.isList fun h' he hit hsz hk => wpAny_pyIter_enum he ?_
      have I2 : Inv X pins σ H1 { s1 with heap := h' } := I1.kept (t' := s1.toks) hk
      exact ⟨s1.heap.objs.size + 1, [s1.heap.objs.size + 1, s1.heap.objs.size], _, _, H1, rfl, I2, turn_enum a (s1.heap.objs.size + 1) s1.heap.objs.size, ⟨⟨.none, he⟩, hit, Nat.succ_ne_self _⟩, fun b hb => new b (by simpa using hb), q⟩
    · obtain ⟨its, rv, p', hz⟩ := I1.tuple hq
      have p2 : s1.heap.IsTuple a its.toArray := p'
      have la : a < s1.heap.objs.size := by obtain ⟨_, q, _⟩ := p2; exact Heap.lt_size q
      refine call_enumT p2 fun h' he hit hsz hk => wpAny_pyIter_enum he ?_
      have I2 : Inv X pins σ H1 { s1 with heap := h' } := I1.kept (t' := s1.toks) hk
      exact ⟨s1.heap.objs.size + 1, [s1.heap.objs.size + 1, s1.heap.objs.size], _, _, H1, rfl, I2, turn_enumT a (s1.heap.objs.size + 1) s1.heap.objs.size (Nat.ne_of_lt la) (Nat.ne_of_gt (Nat.lt_succ_of_lt la)), ⟨⟨.none, he⟩, hit, Nat.succ_ne_self _⟩, fun b hb => new b (by simpa using hb), q⟩
/-- the items with their numbers -/
def enums (ds : List PV) : List PV := ds.zipIdx.map fun x => .tup [.int (x.2 : Nat), x.1]
theorem enums_len (ds : List PV) : (enums ds).length = ds.length := by simp [enums]
theorem enums_at {ds : List PV} {i : Nat} {d : PV} (h : ds[i]? = some d) : (enums ds)[i]? = some (.tup [.int (i : Nat), d]) := by
  simp [enums, List.getElem?_zipIdx, h]
theorem itd_enumL {K : Kz} {w : Wd} {H : Hp} {a : Addr} {xs : List V} {ds : List PV} (h : ∀ w' H', Ext w H w' H' → SqL K.K.F H' a xs) (n : DnAll K w H xs ds) : ItD K (Ite K.K.F a) w H (enums ds) where
  go := fun i w' H' e hi => by
    rw [enums_len] at hi
    obtain ⟨v, h1, _⟩ := n.get (List.getElem?_eq_getElem hi)
    exact ⟨xs, v, h _ _ e, h1⟩
  yld := fun i w' H' x H'' Z' e z k hi ⟨T, v, h1, h2, h3, h4⟩ => by
    subst h1; subst h3
    obtain ⟨d, q1, q2⟩ := n.get' (h4 xs (h _ _ e))
    exact ⟨_, enums_at q1, Ext.new k h2, k.new h2, .tup (.inl ⟨k.off h2, k.nz h2, .inl upd_same⟩) (.cons (.int _) (.cons (((q2.hide z).ext e).ext (Ext.new k h2)) .nil))⟩
  stop := fun w' H' e => ⟨xs, h _ _ e, by rw [n.length, enums_len]; exact Nat.le_refl _⟩
theorem itd_enumT {K : Kz} {w : Wd} {H : Hp} {a : Addr} {xs : List V} {ds : List PV} (h : Tp K w H a xs) (n : DnAll K w H xs ds) : ItD K (IteT K.K.F a) w H (enums ds) where
  go := fun i w' H' e hi => by
    rw [enums_len] at hi
    obtain ⟨v, h1, _⟩ := n.get (List.getElem?_eq_getElem hi)
    exact ⟨xs, v, (h.ext e).sq, h1⟩
  yld := fun i w' H' x H'' Z' e z k hi ⟨T, v, h1, h2, h3, h4⟩ => by
    subst h1; subst h3
    obtain ⟨d, q1, q2⟩ := n.get' (h4 xs (h.ext e).sq)
    exact ⟨_, enums_at q1, Ext.new k h2, k.new h2, .tup (.inl ⟨k.off h2, k.nz h2, .inl upd_same⟩) (.cons (.int _) (.cons (((q2.hide z).ext e).ext (Ext.new k h2)) .nil))⟩
  stop := fun w' H' e => ⟨xs, (h.ext e).sq, by rw [n.length, enums_len]⟩
def rEnum (ds : List PV) (k : List PV → Prop) : Prop := match ds with
  | [.lst xs] => k (enums xs)
  | [.scr xs] => k (enums xs)
  | [.tup xs] => k (enums xs)
  | _ => False
def wEnumerate (ta : WA) : WI := fun ρ w Q => ta ρ w fun ds w1 => rEnum ds fun xs => Q xs w1
theorem di_enumerate {X : Cx} {e : Expr} {ta : WA} {p pos tpos : Pos} {elts : List Expr} {kk : Nat} (hg : Gl X "enumerate") (hm : X.mg "enumerate" = none) (ha : DA X [e] ta) (hs : starEach [e] X.env = [(false, eval e X.env)] := by rfl) :
    DI X (.Tuple elts kk tpos) (.Call (.Name "enumerate" p) [e] [] pos) (wEnumerate ta) :=
  pi_le (pi_enumT hg hm ha hs) fun σ H R ⟨Z, ρ, w, Q', r, h, k⟩ => upA1 r h fun vs H1 ds w1 e1 r1 n h1 => by
    unfold rEnum at h1
    split at h1
    · obtain ⟨v, rfl, n1⟩ := dall1 n
      cases n1 with
      | lst hp hn => exact ⟨_, _, rfl, .inl ⟨hp.sq, k _ _ _ _ e1 r1.wk (itd_enumL (fun _ _ e => (hp.ext e).sq) hn) h1⟩⟩
    · obtain ⟨v, rfl, n1⟩ := dall1 n
      cases n1 with
      | scr hp hn => exact ⟨_, _, rfl, .inl ⟨hp.sq, k _ _ _ _ e1 r1.wk (itd_enumL (fun _ _ e => (hp.ext e).sq) hn) h1⟩⟩
    · obtain ⟨v, rfl, n1⟩ := dall1 n
      cases n1 with
      | tup hp hn => exact ⟨_, _, rfl, .inr ⟨hp.sq, k _ _ _ _ e1 r1.wk (itd_enumT hp hn) h1⟩⟩
    · exact h1.elim
section
variable {ρ : Sl} {w : Wd} {TA : WA} {ds : List PV}
instance s_enumI {N : List PV → Wd → Prop} : Stp (wEnumerate TA ρ w N) (TA ρ w fun ds w1 => rEnum ds fun xs => N xs w1) := ⟨id⟩
instance s_enumL {N : List PV → Prop} : Stp (rEnum [.lst ds] N) (N (enums ds)) := ⟨id⟩
instance s_enumT {N : List PV → Prop} : Stp (rEnum [.tup ds] N) (N (enums ds)) := ⟨id⟩
end
end Pd

/-! all(x), any(x): of a list or a tuple of truths -/
namespace Pd
open PySem L2
def cBlsX (f : List Bool → Bool) : RcD := fun ds w Q => match ds with
  | [.lst es] => ∃ bs, blsOf es = some bs ∧ Q (.bl (f bs)) w
  | [.tup es] => ∃ bs, blsOf es = some bs ∧ Q (.bl (f bs)) w
  | _ => False
def cAllX : RcD := cBlsX (·.all id)
def cAnyX : RcD := cBlsX (·.any id)
section
variable {X : Cx}
theorem cr_allT (hc : X.calm = true) : CallR X (.builtin "all") (fun vs H Q => ∃ (a : Addr) (bs : List Bool), vs = [V.ref a] ∧ SqT X.K H a (bs.map V.bl) ∧ Q (.bl (bs.all id)) H) := by
  intro pins s σ H vs us Q I r h
  obtain ⟨a, bs, rfl, hs, q⟩ := h
  obtain ⟨its, rv, hl, _⟩ := I.tuple hs
  have hl : s.heap.IsTuple a its.toArray := hl
  rw [Vals.ref1 r]
  have hb := rv.bls
  have hlt : a < s.heap.objs.size := by obtain ⟨_, e, _⟩ := hl; exact Heap.lt_size e
  refine call_all_walk (wpAny_pyIter_tuple hl ?_)
  refine ⟨_, _, _, _, _, _, _, rfl, Walks.tuple (A := X.A.in1) (I.ok.hd hc) _ a (Nat.ne_of_lt hlt) its.toArray, ⟨⟨_, Heap.get?_push_size _ rfl, rfl, rfl⟩, hl.push _⟩, truth_bools hb, fun h' tk hk => ?_⟩
  refine ⟨.bl _, H, I.kept fun b o eo => hk b o (fun hmem => ?_) (Heap.get?_push_of_some _ eo), ?_, q⟩
  · rcases List.mem_cons.mp hmem with e1 | hmem
    · exact absurd (e1 ▸ Heap.lt_size eo) (Nat.lt_irrefl _)
    · cases hmem
  · show Value.bool _ = Value.bool _
    rw [← all_range, hb, List.size_toArray, List.length_map]
theorem ca_allX (hc : X.calm = true) : CaD X (.builtin "all") cAllX := by
  obtain ⟨r0, h1, h2⟩ := (ca_all (X := X) hc).ex
  refine ⟨fun vs H Q => r0 vs H Q ∨ (∃ (a : Addr) (bs : List Bool), vs = [V.ref a] ∧ SqT X.K H a (bs.map V.bl) ∧ Q (.bl (bs.all id)) H), ?_, fun Z xs H ds w Q' Q k n h kq => ?_⟩
  · intro pins s σ H vs us Q I r h
    rcases h with h | h
    · exact h1 pins s σ H vs us Q I r h
    · exact cr_allT hc pins s σ H vs us Q I r h
  · unfold cAllX cBlsX at h
    split at h
    · exact .inl (h2 Z xs H _ w Q' Q k n h kq)
    · obtain ⟨v, rfl, n1⟩ := dall1 n
      cases n1 with
      | tup hl hn =>
        obtain ⟨bs, hb, q⟩ := h
        have e := blsOf_dn hb hn
        subst e
        exact .inr ⟨_, bs, rfl, hl.sq, kq _ _ (post_same k (.bl _) q)⟩
    · exact h.elim
theorem cr_anyT (hc : X.calm = true) : CallR X (.builtin "any") (fun vs H Q => ∃ (a : Addr) (bs : List Bool), vs = [V.ref a] ∧ SqT X.K H a (bs.map V.bl) ∧ Q (.bl (bs.any id)) H) := by
  intro pins s σ H vs us Q I r h
  obtain ⟨a, bs, rfl, hs, q⟩ := h
  obtain ⟨its, rv, hl, _⟩ := I.tuple hs
  have hl : s.heap.IsTuple a its.toArray := hl
  rw [Vals.ref1 r]
  have hb := rv.bls
  have hlt : a < s.heap.objs.size := by obtain ⟨_, e, _⟩ := hl; exact Heap.lt_size e
  refine call_any_walk (wpAny_pyIter_tuple hl ?_)
  refine ⟨_, _, _, _, _, _, _, rfl, Walks.tuple (A := X.A.in1) (I.ok.hd hc) _ a (Nat.ne_of_lt hlt) its.toArray, ⟨⟨_, Heap.get?_push_size _ rfl, rfl, rfl⟩, hl.push _⟩, truth_bools hb, fun h' tk hk => ?_⟩
  refine ⟨.bl _, H, I.kept fun b o eo => hk b o (fun hmem => ?_) (Heap.get?_push_of_some _ eo), ?_, q⟩
  · rcases List.mem_cons.mp hmem with e1 | hmem
    · exact absurd (e1 ▸ Heap.lt_size eo) (Nat.lt_irrefl _)
    · cases hmem
  · show Value.bool _ = Value.bool _
    rw [← any_range, hb, List.size_toArray, List.length_map]
theorem ca_anyX (hc : X.calm = true) : CaD X (.builtin "any") cAnyX := by
  obtain ⟨r0, h1, h2⟩ := (ca_any (X := X) hc).ex
  refine ⟨fun vs H Q => r0 vs H Q ∨ (∃ (a : Addr) (bs : List Bool), vs = [V.ref a] ∧ SqT X.K H a (bs.map V.bl) ∧ Q (.bl (bs.any id)) H), ?_, fun Z xs H ds w Q' Q k n h kq => ?_⟩
  · intro pins s σ H vs us Q I r h
    rcases h with h | h
    · exact h1 pins s σ H vs us Q I r h
    · exact cr_anyT hc pins s σ H vs us Q I r h
  · unfold cAnyX cBlsX at h
    split at h
    · exact .inl (h2 Z xs H _ w Q' Q k n h kq)
    · obtain ⟨v, rfl, n1⟩ := dall1 n
      cases n1 with
      | tup hl hn =>
        obtain ⟨bs, hb, q⟩ := h
        have e := blsOf_dn hb hn
        subst e
        exact .inr ⟨_, bs, rfl, hl.sq, kq _ _ (post_same k (.bl _) q)⟩
    · exact h.elim
end
end Pd

/-! further steps -/
namespace Pd
open PySem L2
section
variable {ρ : Sl} {w : Wd} {Q : WQ} {ds es : List PV} {a : Addr} {k i : Int} {s z : Str} {b : Bool} {te : WE}
theorem x_mulT (h1 : 0 ≤ k) (h2 : k ≤ 1000) (h3 : ds.length ≤ 1000) (h : Q (.tup (List.replicate k.toNat ds).flatten) w) : dMulT (.tup ds) (.int k) w Q := ⟨⟨h1, h2, h3⟩, h⟩
theorem x_tupR (hw : w a = some (.lst ds)) (h : Q (.tup ds) w) : cTuple [.ref a] w Q := by unfold cTuple seqOf; simp only [vw, hw]; exact h
theorem x_listR (hw : w a = some (.lst ds)) (h : Q (.lst ds) w) : cList [.ref a] w Q := by unfold cList seqOf; simp only [vw, hw]; exact h
theorem x_addRL (hw : w a = some (.lst ds)) (hl : ds.length + es.length ≤ sizeLine) (h : Q (.lst (ds ++ es)) w) : dAdd (.ref a) (.lst es) w Q := by unfold dAdd; simp only [vw, hw]; exact ⟨hl, h⟩
theorem x_ixR {d : PV} (hw : w a = some (.lst ds)) (e : atI ds i = some d) (h : Q d w) : dIx (.ref a) (.int i) w Q := by unfold dIx; simp only [vw, hw]; exact ⟨d, e, h⟩
instance s_lRev : Stp (wLRev te ρ w Q) (te ρ w fun x w1 => rLRev x w1 Q) := ⟨id⟩
instance s_rLRev : Stp (rLRev (.lst ds) w Q) (Q (.lst ds.reverse) w) := ⟨id⟩
theorem x_ifSet' {c : Prop} [Decidable c] {D : WEnds} {n : Nat} {i j : PV} (h : ∀ d, d = i ∨ d = j → D.nx (ρ.set n (some d)) w) (hρ : ρ.set n (some j) = ρ) : if decide c = true then wAsg (wC i) (wName n) D ρ w else wNext D ρ w :=
  x_ite (fun _ => h i (.inl rfl)) fun _ => by have := h j (.inr rfl); rw [hρ] at this; exact this
theorem x_ixMem (h0 : 0 ≤ i) (h1 : i < ds.length) (h : ∀ d, d ∈ ds → Q d w) : dIx (.lst ds) (.int i) w Q := by
  obtain ⟨d, hd, hm⟩ := atI_lt (xs := ds) h0 h1
  exact x_ixL hd (h d hm)
theorem x_ixMemT (h0 : 0 ≤ i) (h1 : i < ds.length) (h : ∀ d, d ∈ ds → Q d w) : dIx (.tup ds) (.int i) w Q := by
  obtain ⟨d, hd, hm⟩ := atI_lt (xs := ds) h0 h1
  exact x_ixT hd (h d hm)
end
section
variable {ρ : Sl} {w : Wd} {Q : WQ} {te t : WE} {k : Key} {kts : List (Key × WE)} {kvs : List (Key × PV)} {s : Str} {d : PV} {i : Int}
instance s_ixV : Stp (wIxV kts te ρ w Q) (wVals kts ρ w fun kvs w1 => te ρ w1 fun y w2 => rIxD kvs y w2 Q) := ⟨id⟩
instance s_valsN {N : List (Key × PV) → Wd → Prop} : Stp (wVals [] ρ w N) (N [] w) := ⟨id⟩
instance s_valsC {N : List (Key × PV) → Wd → Prop} : Stp (wVals ((k, t) :: kts) ρ w N) (t ρ w fun d w1 => wVals kts ρ w1 fun kvs w2 => N ((k, d) :: kvs) w2) := ⟨id⟩
theorem x_rixS (e : valP kvs (.inr s) = some d) (h : Q d w) : rIxD kvs (.str s) w Q := ⟨d, e, h⟩
instance s_rixHit : Stp (rIxD ((.inr s, d) :: kvs) (.str s) w Q) (Q d w) := ⟨fun h => ⟨d, by simp [valP, List.find?_cons], h⟩⟩
theorem x_rixMiss {z : Str} (ne : z ≠ s) (h : rIxD kvs (.str s) w Q) : rIxD ((.inr z, d) :: kvs) (.str s) w Q := by
  obtain ⟨d', e, q⟩ := h
  refine ⟨d', ?_, q⟩
  have : valP ((.inr z, d) :: kvs) (.inr s) = valP kvs (.inr s) := by simp [valP, List.find?_cons, ne]
  rw [this]; exact e
theorem x_rixI (e : valP kvs (.inl i) = some d) (h : Q d w) : rIxD kvs (.int i) w Q := ⟨d, e, h⟩
end
/-! loops -/
theorem x_forC {g : WG} {tb : WS} {E : WEnds} {d : PV} {r : List PV} {ρ : Sl} {w : Wd} (h : g d ρ w fun ρ1 w1 => tb { nx := forD g tb E r, rt := E.rt, bk := E.nx, ct := forD g tb E r } ρ1 w1) : forD g tb E (d :: r) ρ w := h
theorem x_forN {g : WG} {tb : WS} {E : WEnds} {ρ : Sl} {w : Wd} (h : E.nx ρ w) : forD g tb E [] ρ w := h
theorem for_enum {α : Type} {g : WG} {tb : WS} {E : WEnds} (f : α → PV) (xs : List α) (I : Nat → Sl → Wd → Prop) (h0 : ∀ ρ w, I xs.length ρ w → E.nx ρ w)
    (hs : ∀ i x ρ w (N : Sl → Wd → Prop), xs[i]? = some x → (∀ ρ w, I (i + 1) ρ w → N ρ w) → I i ρ w → g (.tup [.int (i : Nat), f x]) ρ w fun ρ1 w1 => tb { nx := N, rt := E.rt, bk := E.nx, ct := N } ρ1 w1) {ρ : Sl} {w : Wd} (h : I 0 ρ w) : forD g tb E (enums (xs.map f)) ρ w := by
  have key : ∀ (n i : Nat) ρ w, i + n = xs.length → I i ρ w → forD g tb E ((enums (xs.map f)).drop i) ρ w := by
    intro n
    induction n with
    | zero =>
      intro i ρ w e hi
      have : (enums (xs.map f)).drop i = [] := List.drop_eq_nil_of_le (by rw [enums_len, List.length_map]; omega)
      rw [this]
      exact h0 ρ w (by rw [← e]; exact hi)
    | succ n ih =>
      intro i ρ w e hi
      have hl : i < xs.length := by omega
      have hx : xs[i]? = some xs[i] := by simp [hl]
      have hq : (enums (xs.map f))[i]? = some (.tup [.int (i : Nat), f xs[i]]) := enums_at (by simp [hl])
      have hl2 : i < (enums (xs.map f)).length := by rw [enums_len, List.length_map]; exact hl
      rw [List.drop_eq_getElem_cons hl2]
      rw [List.getElem?_eq_getElem hl2] at hq
      rw [Option.some.inj hq]
      exact hs i xs[i] ρ w _ hx (fun ρ w hi => ih (i + 1) ρ w (by omega) hi) hi
  have := key xs.length 0 ρ w (by omega) h
  simpa using this
theorem wh_ind {tc : WT} {tb : WS} {E : WEnds} (I : Nat → Sl → Wd → Prop) (h0 : ∀ ρ w, ¬ I 0 ρ w)
    (hs : ∀ m ρ w (N : Sl → Wd → Prop), (∀ ρ w, I m ρ w → N ρ w) → I (m + 1) ρ w → tc ρ w fun b w1 => if b = true then tb { nx := N, rt := E.rt, bk := E.nx, ct := N } ρ w1 else E.nx ρ w1) : ∀ m ρ w, I m ρ w → whD tc tb E m ρ w
  | 0, ρ, w, h => (h0 ρ w h).elim
  | m + 1, ρ, w, h => hs m ρ w _ (wh_ind I h0 hs m) h
theorem x_while {tc : WT} {tb : WS} {E : WEnds} {ρ : Sl} {w : Wd} (n : Nat) (h : whD tc tb E n ρ w) : wWhile tc tb E ρ w := ⟨n, h⟩
/-! numbers in lists of numbers -/
def nI (n : Nat) : PV := .int n
theorem any_nI (k : Nat) : ∀ L : List Nat, ((L.map nI).any fun e => PV.eqb e (.int k)) = decide (k ∈ L)
  | [] => rfl
  | x :: r => by
    rw [List.map_cons, List.any_cons, any_nI k r]
    by_cases e : x = k
    · subst e; simp [nI, PV.eqb]
    · have : PV.eqb (nI x) (.int k) = false := by simp [nI, PV.eqb]; omega
      rw [this]; simp [Ne.symm e]
theorem pls_nI : ∀ L : List Nat, PV.pls (L.map nI) = true
  | [] => rfl
  | x :: r => by simp [PV.pls, PV.pl, nI]; exact pls_nI r
section
variable {w : Wd} {Q : WQ} {k : Nat} {L : List Nat} {b : Bool}
theorem x_inI (e : decide (k ∈ L) = b) (h : Q (.bl b) w) : dIn false (.int k) (.lst (L.map nI)) w Q := by
  refine ⟨⟨by simp [PV.pl], pls_nI L, by simp [PV.dep]⟩, ?_⟩
  rw [any_nI, e]; exact h
theorem x_ninI (e : decide (k ∈ L) = b) (h : Q (.bl (!b)) w) : dIn true (.int k) (.lst (L.map nI)) w Q := by
  refine ⟨⟨by simp [PV.pl], pls_nI L, by simp [PV.dep]⟩, ?_⟩
  rw [any_nI, e]; exact h
end
section
variable {w : Wd} {Q : WQ} {i j k l : Int} {s z1 z2 z3 z4 : Str}
theorem eqb_pairI : PV.eqb (.tup [.int i, .int j]) (.tup [.int k, .int l]) = (decide (i = k) && decide (j = l)) := by
  rw [PV.eqb, PV.eqbs, PV.eqbs, PV.eqbs, PV.eqb, PV.eqb, Bool.and_true, Bool.beq_eq_decide_eq, Bool.beq_eq_decide_eq]
instance s_eqT2 : Stp (dEq (.tup [.int i, .int j]) (.tup [.int k, .int l]) w Q) (Q (.bl (decide (i = k) && decide (j = l))) w) := ⟨fun h => by
  refine x_eq (by simp [PV.pl, PV.pls]) (by simp [PV.pl, PV.pls]) (by simp [PV.dep, PV.deps]) ?_
  rw [eqb_pairI]; exact h⟩
theorem sb (a b : Str) : (a == b) = decide (b = a) := by
  rw [str_beq]; exact Bool.eq_iff_iff.mpr (by simp; exact eq_comm)
instance s_in4 : Stp (dIn false (.str s) (.tup [.str z1, .str z2, .str z3, .str z4]) w Q) (Q (.bl (decide (s = z1) || (decide (s = z2) || (decide (s = z3) || decide (s = z4))))) w) := ⟨fun h => by
  refine ⟨⟨by simp [PV.pl], by simp [PV.pls, PV.pl], by simp [PV.dep]⟩, ?_⟩
  simp only [List.any_cons, List.any_nil, PV.eqb, sb, Bool.or_false]; exact h⟩
end
/-! the law's hand: three numbers; what the draws leave as it is -/
/-- a hand of three: a cell, a number mixed, how often it was asked -/
def HandT (m : MO) (f : Nat) : Prop := ∃ (x y c : Int), m = .lst [.int x, .int y, .int c] ∧ 0 ≤ x ∧ 0 ≤ y ∧ y < 2 ^ 63 ∧ 0 ≤ c ∧ c + f ≤ 2 ^ 40
def Hnd (w : Wd) (a : Addr) (f : Nat) : Prop := ∃ m, w a = some m ∧ HandT m f
theorem Hnd.le {w : Wd} {a : Addr} {f g : Nat} (h : Hnd w a f) (hg : g ≤ f) : Hnd w a g := by
  obtain ⟨m, hm, x, y, c, e, h1, h2, h3, h4, h5⟩ := h
  exact ⟨m, hm, x, y, c, e, h1, h2, h3, h4, by omega⟩
def Frm (a : Addr) (w w' : Wd) : Prop := ∀ b, b ≠ a → w' b = w b
theorem Frm.refl (a : Addr) (w : Wd) : Frm a w w := fun _ _ => rfl
theorem Frm.trans {a : Addr} {w w1 w2 : Wd} (h : Frm a w w1) (h' : Frm a w1 w2) : Frm a w w2 := fun b hb => (h' b hb).trans (h b hb)
theorem Frm.set (a : Addr) (w : Wd) (m : MO) : Frm a w (wset w a m) := fun _ hb => wset_ne hb
def qTake : PSp := fun ds w Q => ∃ (a : Addr) (m : Int) (f : Nat), ds = [.ref a, .int m] ∧ 0 < m ∧ m < 2 ^ 64 ∧ Hnd w a (f + 1) ∧ ∀ (i : Int) w', 0 ≤ i → i < m → Hnd w' a f → Frm a w w' → Q (.int i) w'
theorem hnd_set {w' : Wd} {a : Addr} {x y c : Int} {f : Nat} (h1 : 0 ≤ x) (h2 : 0 ≤ y) (h3 : y < 2 ^ 63) (h4 : 0 ≤ c) (h5 : c + f ≤ 2 ^ 40) : Hnd (wset w' a (.lst [.int x, .int y, .int c])) a f :=
  ⟨_, wset_same, x, y, c, rfl, h1, h2, h3, h4, h5⟩
/-- a hand of the script's k-th cell -/
def qHandK : PSp := fun ds w Q => ∃ (ns : List Int) (k : Int), ds = [.scr (ns.map PV.int), .int k] ∧ 0 ≤ k ∧ k < 1000000 ∧ ∀ a m, w a = none → HandT m (2 ^ 39) → Q (.ref a) (wset w a m)
/-- a thing that is drawn, by so many draws -/
def qThingT (n : Nat) (p : PV → Bool) : PSp := fun ds w Q => ∃ a f, ds = [.ref a] ∧ Hnd w a (f + n) ∧ ∀ d w', p d = true → Hnd w' a f → Frm a w w' → Q d w'
theorem Frm.get {a p : Addr} {w w' : Wd} {m : Option MO} (f : Frm a w w') (np : p ≠ a) (h : w p = m) : w' p = m := (f p np).trans h
theorem Hnd.set {w : Wd} {a p : Addr} {m : MO} {f : Nat} (h : Hnd w a f) (np : p ≠ a) : Hnd (wset w p m) a f := by
  obtain ⟨m', h1, h2⟩ := h
  exact ⟨m', by rw [wset_ne (Ne.symm np)]; exact h1, h2⟩
theorem Hnd.del {w : Wd} {a p : Addr} {f : Nat} (h : Hnd w a f) (np : p ≠ a) : Hnd (wdel w p) a f := by
  obtain ⟨m', h1, h2⟩ := h
  exact ⟨m', by unfold wdel; rw [if_neg (Ne.symm np)]; exact h1, h2⟩
theorem Hnd.off {w : Wd} {a p : Addr} {f : Nat} (h : Hnd w a f) (hp : w p = none) : p ≠ a := fun z => by
  obtain ⟨m', h1, h2⟩ := h
  rw [z, h1] at hp; cases hp
theorem wset_get {w : Wd} {a b : Addr} {m : MO} {r : Option MO} (ne : b ≠ a) (h : w b = r) : wset w a m b = r := (wset_ne ne).trans h
theorem x_ifSet {c : Prop} [Decidable c] {D : WEnds} {ρ : Sl} {w : Wd} {n : Nat} {i j : PV} (h : ∀ d, d = i ∨ d = j → D.nx (ρ.set n (some d)) w) (hρ : ρ.set n (some j) = ρ) : if decide c = true then wAsg (wC i) (wName n) D ρ w else wNext D ρ w :=
  x_ite (fun _ => h i (.inl rfl)) fun _ => by have := h j (.inr rfl); rw [hρ] at this; exact this
theorem cutD_hi {α : Type} (xs : List α) {i : Int} (h0 : 0 ≤ i) : (cutD xs none (some i)).length = min i.toNat xs.length := by
  obtain ⟨k, rfl⟩ := Int.eq_ofNat_of_zero_le h0
  unfold cutD
  rw [HT.sIx_nat, HT.sIx_none, List.length_take, List.length_drop]
  simp
theorem cutD_lo {α : Type} (xs : List α) {i : Int} (h0 : 0 ≤ i) : (cutD xs (some i) none).length = xs.length - i.toNat := by
  obtain ⟨k, rfl⟩ := Int.eq_ofNat_of_zero_le h0
  unfold cutD
  rw [HT.sIx_nat, HT.sIx_none, List.length_take, List.length_drop]
  simp; omega
theorem x_take {a : Addr} {m : Int} {w : Wd} {Q : WQ} {F : Nat} (hH : Hnd w a F) (h0 : 0 < m) (h1 : m < 2 ^ 64) (hF : 1 ≤ F) (k : ∀ i w', 0 ≤ i → i < m → Hnd w' a (F - 1) → Frm a w w' → Q (.int i) w') : qTake [.ref a, .int m] w Q :=
  ⟨a, m, F - 1, rfl, h0, h1, hH.le (by omega), k⟩
end Pd

/-! sorted(d.items(), key=lambda pair: pair[0]) -/
namespace Pd
open PySem L2 PyProof.Rows RT
open LamX (CodeO TabB TabS inv_table codeO_ne)
abbrev lamB (x : Str) (p1 p2 p3 : Pos) (j : Nat) : Expr := .Subscript (.Name x p1) (.Constant (.int 0) j p2) p3
section
variable {prog : Program} {w : World} {A : Around} {s : Shared}
/-- what a lambda of one parameter asks of its names -/
structure Lam1 (scope : Scope) (x : Str) : Prop where
  kind : scope.kind = .function
  co : scope.isCoroutine = false
  gen : scope.isGenerator = false
  cell : ∀ y ∈ scope.names, y.2 ≠ .cell
  free : ∀ y ∈ scope.names, y.2 ≠ .free
  loc : scope.names.lookup x = some .local
theorem lam0 {f T c' : Addr} {x qual : Str} {params : Arguments} {scope : Scope} {pm ctv : Value} {k : Str} {t : Tok} {u : Value} {p1 p2 p3 : Pos} {j : Nat}
    (hof : s.heap.get? f = some (PySem.W.kla_obj "<lambda>" qual params (lamB x p1 p2 p3 j) scope [] pm c' ctv))
    (hc : ∃ (oc : Obj) (vs : Array Value) (t : Tok), s.heap.get? c' = some oc ∧ oc.data = .fields vs ∧ vs[1]? = some (.str qual t))
    (hlim : s.heap.NoLimit) (hroom : A.depth < recursionLimit) (L : Lam1 scope x)
    (hbind : ∀ u, bindArgs (PySem.W.kla_fn "<lambda>" qual params (lamB x p1 p2 p3 j) scope [] pm (.ref c') ctv) ⟨[u], []⟩ = pure [(x, u)])
    (hd : (x == ("__debug__" : Str)) = false)
    (hT : s.heap.get? T = some { cls := .type "tuple", data := .seq #[.str k t, u] }) :
    wpAny (model prog w) A (call (.ref f) [.ref T]) (PySem.W.KeyPure (.str k) s) (fun _ _ => False) s := by
  obtain ⟨oc, vs, tc, e1, e2, e3⟩ := hc
  refine wpAny_call (codeAny_mono (R := fun r s' => ∃ v, r = .ok (.ret v) ∧ PySem.W.KeyPure (.str k) s v s') ?_ fun r s' hq => ?_)
  · refine PySem.W.kla_callFunE hroom hof rfl L.co L.gen rfl ⟨c', oc, vs, tc, rfl, e1, e2, e3⟩ ?_
    rw [hbind]
    refine wpAny_pure (wpAny_newFunctionEnv L.cell (fun y hy => ?_) (fun h₁ hns hsb => ⟨hlim.fresh _ hsb, ?_⟩) L.kind)
    · rw [List.mem_singleton.mp hy]; exact L.loc
    have kp : ∀ b o, s.heap.get? b = some o → h₁.get? b = some o := fun b o e => hsb.extBut b o (Nat.ne_of_lt (Heap.lt_size e)) (Heap.get?_push_of_some _ e)
    refine PySem.W.kla_codeExpr (Subscript_ (wpAny_Name (wpAny_loadName_local L.kind L.loc hns (v := .ref T) ?_ ?_) hd))
    · simp
    refine wpAny_Constant_int ?_
    have hT1 : IsTup h₁ T #[.str k t, u] := ⟨_, kp _ _ hT, rfl, _, rfl⟩
    refine subscriptTail_builtinR (x := .str k t) (show Shared.TypeIs _ (.ref T) "tuple" from ⟨_, kp _ _ hT, rfl⟩) slot_tuple_getitem.lookup ?_ (by rfl)
    refine getItem_tuple (j := 0) hT1 (by decide) (by decide) (by rfl) (by rfl) ⟨rfl, ?_⟩
    exact ⟨_, rfl, h₁, _, rfl, kp, .str k t⟩
  · obtain ⟨v, rfl, q⟩ := hq
    exact q
end
section
variable {X : Cx} {pins : List (Addr × Obj)} {σ : L2.St} {H : Hp} {s : Shared}
/-- the lambda is made; the table alone may grow -/
theorem lam_make3 {c P : Addr} {params : Arguments} {body : Expr} {scope : Scope} {pos : Pos} {q : Str} {E : Value → Shared → Prop} {Q : Value → Shared → Prop} (I : Inv X pins σ H s) (TB : TabB X.base X.mg c P) (hcode : X.env.code = .ref c)
    (hq : X.env.qual ++ "<lambda>" = q) (hT : TabS H P q) (hdef : defaultsOf params X.env = ([], [])) (hfree : ∀ y ∈ scope.names, y.2 ≠ .free)
    (h : ∀ (f c' : Addr) (pm ctv : Value) (H1 : Hp) (s' : Shared), Inv X pins σ H1 s' → (∀ b o, b ≠ P → s.heap.get? b = some o → s'.heap.get? b = some o) → s.heap.objs.size ≤ s'.heap.objs.size →
      (H1 = H ∨ ∃ ps, H P = some (.tbl ps) ∧ TriplesOk ps.toList ∧ H c' = none ∧ H1 = upd (upd H P (.tbl (ps ++ #[rawInt pos.line, rawInt pos.col, .ref c']))) c' (CodeO c' q)) → TabS H1 P q →
      s'.heap.get? f = some (PySem.W.kla_obj "<lambda>" q params body scope [] pm c' ctv) → H1 f = none → H1 c' = some (CodeO c' q) → Q (.ref f) s') :
    wpAny (model X.prog X.w) X.A (eval (.Lambda params body scope pos) X.env) Q E s := by
  subst hq
  have clo : ∀ {ns : List (Str × NameKind)}, (∀ y ∈ ns, y.2 ≠ .free) → cloFrom X.env.cells ns [] = [] := by
    intro ns
    induction ns with
    | nil => intro _; rfl
    | cons y r ih =>
      intro hf
      have h1 := hf y (List.mem_cons_self ..)
      obtain ⟨n, k⟩ := y
      have := ih fun z hz => hf z (List.mem_cons_of_mem _ hz)
      cases k <;> first | exact absurd rfl h1 | exact this
  have clo0 := clo hfree
  obtain ⟨ps, hP, ht, ha⟩ := hT
  refine PySem.W.kla_eval hdef ?_
  have bP : s.heap.BuiltinsAt X.mg P := TB.bm.keeps I.bk
  have hP' : s.heap.get? P = some { cls := .none, data := .fields ps } := I.hok P _ hP
  have cok : closureFor scope X.env = pure (cloFrom X.env.cells scope.names []) := closure_ok (fun y hy e => absurd e (hfree y hy))
  rw [clo0] at cok
  cases hc : codeAmong pos ps.toList with
  | none =>
    refine PySem.W.kla_makeFunction (mg := X.mg) (c := c) (P := P) (ps := ps) cok I.ok.glob (I.mod.glob.keeps I.bk) hcode (TB.code.keeps I.bk) hP' ht hc TB.gP bP fun c' ctv h' tk hx hge hlt hrec htb => ?_
    obtain ⟨c2, oc, vs, t, e2, hoc, hd, hv⟩ := hrec
    cases e2
    have hsz : s.heap.objs.size ≤ h'.objs.size := Nat.le_trans hge (Nat.le_of_lt hlt)
    have nC : H c' = none := I.hok.fresh hge
    have I1 := inv_table (t' := tk) (more := #[rawInt pos.line, rawInt pos.col, .ref c']) (h' := h'.push (PySem.W.kla_obj "<lambda>" (X.env.qual ++ "<lambda>") params body scope [] ((X.mg "__name__").getD .none) c' ctv)) I hP
      (fun b o hb e => Heap.get?_push_of_some _ (hx b o hb e)) (Heap.get?_push_of_some _ htb) hge ⟨oc, vs, t, Heap.get?_push_of_some _ hoc, hd, hv⟩
    have eL : (ps ++ #[rawInt pos.line, rawInt pos.col, .ref c']).toList = ps.toList ++ [rawInt pos.line, rawInt pos.col, .ref c'] := by simp
    have nP : P ≠ c' := ne_of_none hP nC
    refine h h'.objs.size c' ((X.mg "__name__").getD .none) ctv _ _ I1 (fun b o hb e => Heap.get?_push_of_some _ (hx b o hb e)) (by show _ ≤ (h'.push _).objs.size; rw [Heap.size_push]; omega) (.inr ⟨ps, hP, ht, nC, rfl⟩) ?_ (Heap.get?_push_size _ rfl) ?_ upd_same
    · refine ⟨_, by rw [upd_ne nP, upd_same], by rw [eL]; exact PySem.TriplesOk_snoc _ _ _ _ ht, fun p' cv hcv => ?_⟩
      rw [eL] at hcv
      rcases LamX.among_app _ ht hcv with z | z
      · obtain ⟨c0, e1, e2⟩ := ha p' cv z
        have n1 : c0 ≠ c' := ne_of_none e2 nC
        have n2 : c0 ≠ P := fun z => by rw [z, hP] at e2; exact codeO_ne ps (Option.some.inj e2).symm
        exact ⟨c0, e1, by rw [upd_ne n1, upd_ne n2]; exact e2⟩
      · exact ⟨c', z, upd_same⟩
    · have n1 : h'.objs.size ≠ c' := Nat.ne_of_gt hlt
      have n2 : h'.objs.size ≠ P := Nat.ne_of_gt (Nat.lt_of_lt_of_le (Heap.lt_size hP') hsz)
      rw [upd_ne n1, upd_ne n2]
      exact I.hok.fresh hsz
  | some cv =>
    obtain ⟨c', e, hco⟩ := ha pos cv hc
    subst e
    refine PySem.W.kla_makeFunctionHit (mg := X.mg) (c := c) (P := P) (ps := ps) cok I.ok.glob (I.mod.glob.keeps I.bk) hcode (TB.code.keeps I.bk) hP' ht hc bP fun ctv h' tk hx hsz => ?_
    have I1 : Inv X pins σ H { s with heap := h'.push (PySem.W.kla_obj "<lambda>" (X.env.qual ++ "<lambda>") params body scope [] ((X.mg "__name__").getD .none) c' ctv), toks := tk } := I.kept fun b o e => Heap.get?_push_of_some _ (hx b o e)
    exact h h'.objs.size c' ((X.mg "__name__").getD .none) ctv H _ I1 (fun b o _ e => Heap.get?_push_of_some _ (hx b o e)) (by show _ ≤ (h'.push _).objs.size; rw [Heap.size_push]; omega) (.inl rfl) ⟨ps, hP, ht, ha⟩ (Heap.get?_push_size _ rfl) (I.hok.fresh hsz) hco
end
/-! sorted(view, key=f), the view of a dict's items -/
namespace SrtI
open PySem.W
variable {prog : Program} {w : World} {A : Around} {E : Value → Shared → Prop} {s : Shared}
/-- a pair at an address, its key a text -/
def PairAt (h : Heap) (b : Addr × Str) : Prop := ∃ t u, h.get? b.1 = some { cls := .type "tuple", data := .seq #[.str b.2 t, u] }
def leS (a b : Addr × Str) : Bool := decide (a.2.cps.toList ≤ b.2.cps.toList)
theorem sorted_items {r d f : Addr} {es : Array DictEntry} {ep : Nat} {Q : Value → Shared → Prop} (ks : List Str) (hh : A.handled = none) (hv : s.heap.IsItemsView r d) (hm : s.heap.DictRaw d es ep) (hn : es.size ≤ sizeLine)
    (hkl : ks.length = es.size) (hk : ∀ i (hi : i < es.size) k, ks[i]? = some k → ∃ t, es[i].key = .str k t) (hu : A.units + 3 < cLine)
    (turn : ∀ (T : Addr) (k : Str), ∀ (h : Heap) (tk : Nat), (∀ b o, s.heap.get? b = some o → h.get? b = some o) → PairAt h (T, k) →
      wpAny (model prog w) A.in1.in1 (call (.ref f) [.ref T]) (KeyPure (.str k) { s with heap := h, toks := tk }) (fun _ _ => False) { s with heap := h, toks := tk })
    (h : ∀ (as : List Addr) (L : Addr) c h' tk, (∀ b o, s.heap.get? b = some o → h'.get? b = some o) → as.length = es.size → DilG es s.heap.objs.size h' as → s.heap.get? L = none → L ∉ as →
      h'.get? L = some (seqObj "list" (((as.zip ks).mergeSort leS).map fun b => Value.ref b.1).toArray c) → Q (.ref L) { s with heap := h', toks := tk }) :
    wpAny (model prog w) A (call (.builtin "sorted") [.ref r] [(Str.ofString "key", .ref f)]) Q E s := by
  refine call_function_entry_kw kind_sorted plain_sorted entry_sorted (ksk_s1 _ _) ?_
  unfold Builtin.«sorted»
  refine wpAny_bind (m := checkCount "sorted" 1 1 _) (wpAny_pure ?_)
  refine wpAny_bind (dil_collect hh hv hm hn fun h1 tk1 as kp1 hal hG => ?_)
  have hL : (as.map Value.ref).length ≤ sizeLine := by rw [List.length_map, hal]; exact hn
  refine wpAny_bind (wpAny_newList ?_ hL)
  have kp2 : ∀ b o, h1.get? b = some o → (h1.push (seqObj "list" (as.map Value.ref).toArray 0)).get? b = some o := fun b o e => Heap.get?_push_of_some _ e
  have hLs : (h1.push (seqObj "list" (as.map Value.ref).toArray 0)).get? h1.objs.size = some (seqObj "list" (as.map Value.ref).toArray 0) := Heap.get?_push_size _ rfl
  have hno : h1.get? h1.objs.size = none := Heap.get?_none_of_le (Nat.le_refl _)
  have hsn : s.heap.get? h1.objs.size = none := by
    cases q : s.heap.get? h1.objs.size with
    | none => rfl
    | some o => rw [kp1 _ _ q] at hno; cases hno
  have nin : h1.objs.size ∉ as := fun z => Nat.lt_irrefl _ (hG.there z)
  have zl : (as.zip ks).length = es.size := by rw [List.length_zip, hal, hkl]; omega
  have each : ∀ {g : Heap}, (∀ a ∈ as, ∀ o, h1.get? a = some o → g.get? a = some o) → EachIs (fun v (b : Addr × Str) => v = Value.ref b.1 ∧ PairAt g b) (as.map Value.ref) (as.zip ks) := by
    intro g hg
    refine EachIs.of_zip (by rw [List.length_map, hal, zl]) fun p hp => ?_
    obtain ⟨i, hi⟩ := List.mem_iff_getElem?.mp hp
    rw [List.getElem?_zip_eq_some] at hi
    obtain ⟨h2, h3⟩ := hi
    rw [List.getElem?_zip_eq_some] at h3
    obtain ⟨h4, h5⟩ := h3
    rw [List.getElem?_map, h4] at h2
    refine ⟨(Option.some.inj h2).symm, ?_⟩
    obtain ⟨hj, e6⟩ := hG.pairs i _ h4
    obtain ⟨t, e7⟩ := hk i hj _ h5
    rw [e7] at e6
    exact ⟨t, _, hg _ (List.mem_of_getElem? h4) _ e6⟩
  refine wpAny_bind (wpAny_holding (list_sort_key_data (s := { s with heap := h1.push (seqObj "list" (as.map Value.ref).toArray 0), toks := tk1 }) (b := false) (fun b : Addr × Str => .str b.2) hLs (each fun a ha o e => kp2 a o e) (AllAlike.of fun _ _ => by simp [alike]) (Sortable.others fun _ => ⟨by simp, by simp⟩) (by rw [zl]; exact hn) (fun x _ => ?_) (ksk_l1 _ _) (ksk_t1 _ _) (fun v b ⟨e1, e2⟩ _ g tk kb => ?_) fun out c h' tk kb hD hol eo => ?_))
  · simp only [PyData.depth]
    have : A.in1.units = A.units + 1 := rfl
    omega
  · subst e1
    obtain ⟨t, u, e3⟩ := e2
    have nb : b.1 ≠ h1.objs.size := fun z => by
      rw [z, hLs] at e3
      have q := congrArg Obj.cls (Option.some.inj e3)
      simp at q
    exact turn b.1 b.2 g tk (fun a o e => kb a o (fun z => by rw [z, hsn] at e; cases e) (kp2 _ _ (kp1 _ _ e))) ⟨t, u, kb _ _ nb e3⟩
  · rw [dataLe_str (β := Addr × Str) (fun b => b.2)] at eo
    have eout : out = ((as.zip ks).mergeSort leS).map fun b => Value.ref b.1 := by
      have : ∀ {vs : List Value} {bs : List (Addr × Str)}, EachIs (fun v (b : Addr × Str) => v = Value.ref b.1 ∧ PairAt (h1.push (seqObj "list" (as.map Value.ref).toArray 0)) b) vs bs → vs = bs.map fun b => Value.ref b.1 := by
        intro vs bs q
        induction q with
        | nil => rfl
        | cons h _ ih => rw [h.1, ih]; rfl
      exact this eo
    subst eout
    refine wpAny_pure ⟨_, rfl, h as h1.objs.size c h' tk (fun a o e => kb a o (fun z => by rw [z, hsn] at e; cases e) (kp2 _ _ (kp1 _ _ e))) hal ⟨hG.rise, hG.above, fun j a hj => ?_⟩ hsn nin hD⟩
    obtain ⟨hj', e6⟩ := hG.pairs j a hj
    exact ⟨hj', kb _ _ (fun z => nin (by rw [← z]; exact List.mem_of_getElem? hj)) (kp2 _ _ e6)⟩
end SrtI
/-! objects laid, all new -/
section
variable {X : Cx} {pins : List (Addr × Obj)} {σ : L2.St} {H H' : Hp} {s : Shared}
theorem inv_lay {h' : Heap} {t' : Nat} (I : Inv X pins σ H s) (k : ∀ b u, s.heap.get? b = some u → h'.get? b = some u) (ag : ∀ b u, H b = some u → H' b = some u)
    (nw : ∀ b u, H' b = some u → H b = none → s.heap.get? b = none ∧ ObjOk X.prog X.w H' h' b u) : Inv X pins σ H' { s with heap := h', toks := t' } := by
  refine I.un ⟨fun b u q _ _ _ => k b u q, fun b u q _ _ _ => ⟨u.slots, k b u q⟩, fun b u q n _ => ?_, fun b u q _ => ⟨u, k b u q⟩, fun b xs q => ag _ _ q, fun b o u q => ag _ _ q, fun b ps q => ⟨#[], by rw [ag _ _ q]; simp⟩⟩ fun b u e => ?_
  · cases z : H' b with
    | none => rfl
    | some v => rw [(nw b v z n).1] at q; cases q
  · cases z : H b with
    | none => exact (nw b u e z).2
    | some v =>
      have : u = v := by rw [ag b v z] at e; exact (Option.some.inj e).symm
      subst this
      exact (I.hok b u z).stay (fun c v _ q => k c v q) (fun c q => ag _ _ q) fun c xs q => ag _ _ q
end
/-! the view of a dict's items -/
def ViewO (r a : Addr) : HO := .ext fun h => h.IsItemsView r a
section
variable {X : Cx} {e : Expr} {td : TE} {apos cpos : Pos}
theorem pe_items (he : PE X e td) (hbase : attributeBase e "items" X.env (eval e X.env) = eval e X.env := by rfl) (hline : (apos.endLine == cpos.line) = true := by rfl) :
    PE X (.Call (.Attribute e "items" apos) [] [] cpos) (fun σ H Q => td σ H fun x H1 => ∃ a kvs, x = .ref a ∧ H1 a = some (.dK kvs) ∧ ∀ r, H1 r = none → Q (.ref r) (upd H1 r (ViewO r a))) := by
  refine ⟨fun pins s σ H Q I h => ?_⟩
  refine wpAny_Call_method (T := "dict") (id := "dict.items") hbase rfl hline F.plainAttrs_dict F.slot_dict_items F.type_dict_items (thn (he.run pins s σ H _ I h) fun u s1 ⟨x, H1, I1, rx, d, kvs, ex, hd, q⟩ => ?_)
  subst ex
  obtain rfl : u = Value.ref d := rx
  obtain ⟨hz, hs, vs, kv, hm⟩ := dk_of I1.hok hd
  refine ⟨hm.typeIs, hm.mapOf.noDict, ?_⟩
  show wpAny _ _ (callWith cpos (.builtin "dict.items") [.ref d] [] []) _ X.xe s1
  refine method_meetsIn F.slot_dict_items F.entry_dict_items rfl (PySem.evalArgs_none ⟨rfl, hm.typeIs, F.args_dict_items_1 _, _, meets_dict_items (mixKind X.prog X.w) d hs, ⟨vs, hm⟩, ?_⟩)
  have hv : (s1.heap.push { cls := .type "dict_items", data := .fields #[.ref d] }).IsItemsView s1.heap.objs.size d := ⟨_, Heap.get?_push_size _ rfl, rfl, rfl⟩
  refine ⟨.ref s1.heap.objs.size, _, I1.laid (a := s1.heap.objs.size) (o := ViewO s1.heap.objs.size d) (t' := s1.toks) (fun b ob q => Heap.get?_push_of_some _ q) (Nat.le_refl _) ?_, rfl, q _ (I1.hok.fresh (Nat.le_refl _))⟩
  obtain ⟨o, ho, r⟩ := id hv
  exact ⟨hv, ⟨o, ho⟩, fun h1 h2 ⟨o', ho', r'⟩ k => ⟨o', k _ ho', r'⟩⟩
end
end Pd

/-! sorted(d.items(), key=lambda pair: pair[0]), as data -/
namespace Pd
open PySem L2 PyProof.Rows RT
open LamX (CodeO TabB TabS inv_table codeO_ne)
open PySem.W (EachIs DilG)
def pairP (kv : Key × PV) : PV := .tup [kD kv.1, kv.2]
def leP (a b : Key × PV) : Bool := match a.1, b.1 with
  | .inr x, .inr y => decide (x.cps.toList ≤ y.cps.toList)
  | _, _ => true
def rSortIt (P : Addr) (q : Str) (x : PV) (w : Wd) (Q : WQ) : Prop := match x with
  | .ref a => match w a with
    | some (.dct kvs) => w P = some (.tab q) ∧ (∃ ks : List Str, kvs.map (·.1) = ks.map Sum.inr) ∧ Q (.lst ((kvs.mergeSort leP).map pairP)) w
    | _ => False
  | _ => False
def wSortIt (P : Addr) (q : Str) (te : WE) : WE := fun ρ w Q => te ρ w fun x w1 => rSortIt P q x w1 Q
theorem vals_map : ∀ bs : List (Addr × Str), Vals (bs.map fun b => V.ref b.1) (bs.map fun b => Value.ref b.1)
  | [] => .nil
  | _ :: r => .cons rfl (vals_map r)
theorem obj_there {P : Program} {w : World} {H : Hp} {h : Heap} {a : Addr} {o : HO} (x : ObjOk P w H h a o) : ∃ u, h.get? a = some u := by
  cases o with
  | lst xs => obtain ⟨_, _, _, _, e⟩ := x; exact ⟨_, e⟩
  | tup xs => obtain ⟨_, _, _, ⟨o, e, _⟩⟩ := x; exact ⟨_, e⟩
  | dK kvs => obtain ⟨_, _, _, _, o, _, _, e, _⟩ := x; exact ⟨_, e⟩
  | dT kvs => obtain ⟨_, _, _, _, o, _, _, e, _⟩ := x; exact ⟨_, e⟩
  | set S n => obtain ⟨o, _, _, _, e, _⟩ := x; exact ⟨_, e⟩
  | ins C dx fs => obtain ⟨_, _, _, e, _⟩ := x; exact ⟨_, e⟩
  | own y => obtain ⟨_, e⟩ := x; exact ⟨_, e⟩
  | xd fs => obtain ⟨_, ⟨_, _, _, e, _⟩, _⟩ := x; exact ⟨_, e⟩
  | rng lo hi => obtain ⟨_, _, _, e⟩ := x; exact ⟨_, e⟩
  | frz ob u => obtain ⟨e, _⟩ := x; exact ⟨_, e⟩
  | tbl ps => exact ⟨_, (show h.get? a = some _ from x)⟩
  | met f y => exact ⟨_, (show h.get? a = some _ from x)⟩
  | ext φ => obtain ⟨_, ⟨_, e⟩, _⟩ := x; exact ⟨_, e⟩
theorem hok_none {P : Program} {w : World} {H : Hp} {h : Heap} {a : Addr} (x : HOk P w H h) (e : h.get? a = none) : H a = none := by
  cases q : H a with
  | none => rfl
  | some o =>
    obtain ⟨u, z⟩ := obj_there (x a o q)
    rw [e] at z; cases z
theorem paired_at {α β : Type} {R : α → β → Prop} {as : List α} {bs : List β} (h : Paired R as bs) : ∀ {i : Nat} {b : β}, bs[i]? = some b → ∃ a, as[i]? = some a ∧ R a b := by
  induction h with
  | nil => intro i b hb; simp at hb
  | cons h1 _ ih =>
    intro i b hb
    cases i with
    | zero => simp at hb; subst hb; exact ⟨_, rfl, h1⟩
    | succ i => obtain ⟨a, h2, h3⟩ := ih (by simpa using hb); exact ⟨a, by simpa using h2, h3⟩
theorem paired_at' {α β : Type} {R : α → β → Prop} {as : List α} {bs : List β} (h : Paired R as bs) : ∀ {i : Nat} {a : α}, as[i]? = some a → ∃ b, bs[i]? = some b ∧ R a b := by
  induction h with
  | nil => intro i b hb; simp at hb
  | cons h1 _ ih =>
    intro i b hb
    cases i with
    | zero => simp at hb; subst hb; exact ⟨_, rfl, h1⟩
    | succ i => obtain ⟨a, h2, h3⟩ := ih (by simpa using hb); exact ⟨a, by simpa using h2, h3⟩
theorem lookup_zip {α β : Type} [BEq α] [LawfulBEq α] : ∀ {as : List α} {bs : List β}, as.Nodup → ∀ {i : Nat} {a : α} {b : β}, as[i]? = some a → bs[i]? = some b → (as.zip bs).lookup a = some b
  | [], _, _, _, _, _, h, _ => by simp at h
  | _ :: _, [], _, _, _, _, _, h => by simp at h
  | x :: as, y :: bs, nd, 0, a, b, h1, h2 => by
    simp at h1 h2; subst h1 h2; simp [List.lookup]
  | x :: as, y :: bs, nd, i + 1, a, b, h1, h2 => by
    have h1' : as[i]? = some a := by simpa using h1
    have ne : a ≠ x := fun z => by
      rw [List.nodup_cons] at nd
      exact nd.1 (by rw [← z]; exact List.mem_of_getElem? h1')
    rw [List.zip_cons_cons, List.lookup_cons]
    rw [show (a == x) = false by simpa using ne]
    exact lookup_zip (List.nodup_cons.mp nd).2 h1' (by simpa using h2)
theorem lookup_zip' {α β : Type} [BEq α] [LawfulBEq α] : ∀ {as : List α} {bs : List β} {a : α} {b : β}, (as.zip bs).lookup a = some b → ∃ i : Nat, as[i]? = some a ∧ bs[i]? = some b
  | [], _, _, _, h => by simp at h
  | _ :: _, [], _, _, h => by simp at h
  | x :: as, y :: bs, a, b, h => by
    rw [List.zip_cons_cons, List.lookup_cons] at h
    by_cases e : a = x
    · subst e; simp at h; subst h; exact ⟨0, rfl, rfl⟩
    · rw [show (a == x) = false by simpa using e] at h
      obtain ⟨i, h1, h2⟩ := lookup_zip' h
      exact ⟨i + 1, by simpa using h1, by simpa using h2⟩
/-- the table has grown -/
theorem wk_tab {K : Kz} {w : Wd} {H : Hp} {P c' : Addr} {q : Str} {ps : Array Value} {pos : Pos} (k : Wk K w H) (hw : w P = some (.tab q)) (hP : H P = some (.tbl ps)) (tr : TriplesOk ps.toList) (hc : H c' = none) :
    Wk K w (upd (upd H P (.tbl (ps ++ #[rawInt pos.line, rawInt pos.col, .ref c']))) c' (CodeO c' q)) ∧ Ext w H w (upd (upd H P (.tbl (ps ++ #[rawInt pos.line, rawInt pos.col, .ref c']))) c' (CodeO c' q)) := by
  have nP : P ≠ c' := ne_of_none hP hc
  have hw' : wset w P (.tab q) = w := by
    funext b; unfold wset; split
    · rename_i e; rw [e, hw]
    · rfl
  have e1 : Ext w H w (upd H c' (CodeO c' q)) := Ext.new k hc
  have k1 : Wk K w (upd H c' (CodeO c' q)) := k.new hc
  have hP1 : upd H c' (CodeO c' q) P = some (.tbl ps) := by rw [upd_ne nP]; exact hP
  have com : upd (upd H P (.tbl (ps ++ #[rawInt pos.line, rawInt pos.col, .ref c']))) c' (CodeO c' q) = upd (upd H c' (CodeO c' q)) P (.tbl (ps ++ #[rawInt pos.line, rawInt pos.col, .ref c'])) := by
    funext b
    by_cases h1 : b = c'
    · rw [h1, upd_same, upd_ne (Ne.symm nP), upd_same]
    · rw [upd_ne h1]
      by_cases h2 : b = P
      · rw [h2, upd_same, upd_same]
      · rw [upd_ne h2, upd_ne h2, upd_ne h1]
  rw [com]
  have e2 : Ext w (upd H c' (CodeO c' q)) w (upd (upd H c' (CodeO c' q)) P (.tbl (ps ++ #[rawInt pos.line, rawInt pos.col, .ref c']))) := by
    have := Ext.put (H := upd H c' (CodeO c' q)) (m' := .tab q) (o := .tbl (ps ++ #[rawInt pos.line, rawInt pos.col, .ref c'])) hw
    rw [hw'] at this; exact this
  refine ⟨?_, e1.trans e2⟩
  have := Wk.put (m' := .tab q) (o := .tbl (ps ++ #[rawInt pos.line, rawInt pos.col, .ref c'])) k1 hw (by
    rw [hw']
    cases k1.at_ P _ hw with
    | tab h1 h2 =>
      rw [hP1] at h1; cases h1
      refine .tab upd_same ⟨?_, fun p' cv hcv => ?_⟩
      · have eL : (ps ++ #[rawInt pos.line, rawInt pos.col, .ref c']).toList = ps.toList ++ [rawInt pos.line, rawInt pos.col, .ref c'] := by simp
        rw [eL]; exact PySem.TriplesOk_snoc _ _ _ _ tr
      · have eL : (ps ++ #[rawInt pos.line, rawInt pos.col, .ref c']).toList = ps.toList ++ [rawInt pos.line, rawInt pos.col, .ref c'] := by simp
        rw [eL] at hcv
        rcases LamX.among_app _ tr hcv with z | z
        · obtain ⟨c0, a1, a2, a3, a4⟩ := h2.at_ p' cv z
          exact ⟨c0, a1, (e2 _ _ a3 a2).2, a3, a4⟩
        · exact ⟨c', z, by rw [upd_ne (Ne.symm nP), upd_same], k.off hc, k.nz hc⟩)
  rw [hw'] at this; exact this
section
variable {X : Cx} {e : Expr} {te : WE} {p apos cpos lpos kpos pos p1 p2 p3 : Pos} {j : Nat} {params : Arguments} {scope : Scope} {x q : Str} {c P : Addr} {k : Nat}
theorem de_sortIt (hc : X.calm = true) (hr : Room k X.A) (TB : TabB X.base X.mg c P) (hcode : X.env.code = .ref c) (hq : X.env.qual ++ "<lambda>" = q) (L : Lam1 scope x) (hdef : defaultsOf params X.env = ([], []))
    (hbind : ∀ (pm ctv u : Value) (c' : Addr), bindArgs (PySem.W.kla_fn "<lambda>" q params (lamB x p1 p2 p3 j) scope [] pm (.ref c') ctv) ⟨[u], []⟩ = pure [(x, u)]) (hd : (x == ("__debug__" : Str)) = false)
    (hg : Gl X "sorted") (hm : X.mg "sorted" = none) (he : DE X e te) (hbase : attributeBase e "items" X.env (eval e X.env) = eval e X.env := by rfl) (hline : (apos.endLine == cpos.line) = true := by rfl) :
    DE X (.Call (.Name "sorted" p) [.Call (.Attribute e "items" apos) [] [] cpos] [⟨some "key", .Lambda params (lamB x p1 p2 p3 j) scope lpos, kpos⟩] pos) (wSortIt P q te) := by
  refine ⟨fun pins s σ H Q I ⟨Z, ρ, w, Q', r, h, kq⟩ => ?_⟩
  refine wpAny_Call_Name_kw (ld_blt I hg hm boot_sorted ?_)
  have hpi : PA X [.Call (.Attribute e "items" apos) [] [] cpos] _ := pa_cons (pe_items he hbase hline) pa_nil
  refine PyProof.Rows.callWith_kw (thn (hpi.run pos pins s σ H (fun vs H2 => ∃ a r0 xs kvs w1 H1, vs = [.ref r0] ∧ H1 r0 = none ∧ H2 = upd H1 r0 (ViewO r0 a) ∧ H1 a = some (.dK xs) ∧ KvOk ⟨fw X, Z⟩ w1 H1 xs kvs ∧ Wk ⟨fw X, Z⟩ w1 H1 ∧ Ext w H w1 H1 ∧
      w1 P = some (.tab q) ∧ (∃ ks : List Str, kvs.map (·.1) = ks.map Sum.inr) ∧ Q' (.lst ((kvs.mergeSort leP).map pairP)) w1) I ?_) fun us s1 ⟨vs, H2, I1, r1, a, r0, xs, kvs, w1, H1, e1, hr0, e2, ha, hkv, wk1, ex1, hP, hks, hQ⟩ => ?_) (by rfl) (by rfl) (by rfl) (by rfl)
  · refine up1 r h fun v H1 d w1 e1 r1 n h1 => ?_
    unfold rSortIt at h1
    split at h1
    · rename_i a
      cases n
      split at h1
      · rename_i kvs hw
        obtain ⟨h3, h4, h5⟩ := h1
        cases r1.wk.at_ _ _ hw with
        | @dct xs _ h6 h7 => exact ⟨a, xs, rfl, h6, fun r0 hr0 => ⟨a, r0, xs, kvs, w1, H1, rfl, hr0, rfl, h6, h7, r1.wk, e1, h3, h4, h5⟩⟩
      · exact h1.elim
    · exact h1.elim
  subst e1 e2
  rw [show us = [Value.ref r0] from by cases r1 with | cons q1 q2 => cases q2; cases q1; rfl]
  have wk2 : Wk ⟨fw X, Z⟩ w1 (upd H1 r0 (ViewO r0 a)) := wk1.new hr0
  have ex2 : Ext w1 H1 w1 (upd H1 r0 (ViewO r0 a)) := Ext.new wk1 hr0
  have tab : TabS (upd H1 r0 (ViewO r0 a)) P q := by
    cases wk2.at_ P _ hP with
    | tab t1 t2 => exact ⟨_, t1, t2.tr, fun pp cv hcv => by obtain ⟨c0, b1, b2, _⟩ := t2.at_ pp cv hcv; exact ⟨c0, b1, b2⟩⟩
  show wpAny _ _ (evalAll ((do let v ← eval (.Lambda params (lamB x p1 p2 p3 j) scope lpos) X.env; standAt pos; pure v) :: [])) _ _ s1
  refine wpAny_evalAll_cons (wpAny_bind (lam_make3 I1 TB hcode hq tab hdef L.free fun f c' pm ctv H3 s3 I3 kp3 hsz hH3 tab3 hf hfn hco => wpAny_bind (wpAny_standAt (wpAny_pure (wpAny_evalAll_nil ?_)))))
  show wpAny _ _ (call (.builtin "sorted") [.ref r0] [(Str.ofString "key", .ref f)]) _ _ _
  -- the world behind the lambda
  have wx : Wk ⟨fw X, Z⟩ w1 H3 ∧ Ext w1 (upd H1 r0 (ViewO r0 a)) w1 H3 := by
    rcases hH3 with rfl | ⟨ps, hp1, htr, hcn, rfl⟩
    · exact ⟨wk2, Ext.refl _ _⟩
    · exact wk_tab wk2 hP hp1 htr hcn
  obtain ⟨wk3, ex3⟩ := wx
  have ne0 : r0 ≠ P := fun z => by
    obtain ⟨ps, t1, _⟩ := tab
    rw [← z, upd_same] at t1; cases t1
  have keepH : ∀ b o, b ≠ P → upd H1 r0 (ViewO r0 a) b = some o → H3 b = some o := fun b o nb e => by
    rcases hH3 with rfl | ⟨ps, hp1, htr, hcn, rfl⟩
    · exact e
    · rw [upd_ne (ne_of_none e hcn), upd_ne nb]; exact e
  have neA : a ≠ P := fun z => by
    obtain ⟨ps, t1, _⟩ := tab
    rw [← z, upd_ne (ne_of_none ha hr0), ha] at t1; cases t1
  have hv3 : H3 r0 = some (ViewO r0 a) := keepH _ _ ne0 upd_same
  have hd3 : H3 a = some (.dK xs) := keepH _ _ neA (by rw [upd_ne (ne_of_none ha hr0)]; exact ha)
  obtain ⟨hz, hs, vs2, kv2, hm2⟩ := dk_of I3.hok hd3
  obtain ⟨es, ep, hraw, hes, hent⟩ := hm2.raw
  obtain ⟨hview, _, _⟩ := I3.hok r0 _ hv3
  obtain ⟨ks, hks⟩ := hks
  have lxk : xs.length = kvs.length := kv_len hkv
  have lks : ks.length = kvs.length := by
    have := congrArg List.length hks
    simpa using this.symm
  have lv : vs2.length = kvs.length := by rw [← Paired.length kv2]; exact lxk
  have at1 : ∀ (i : Nat) (k : Key) (d : PV), kvs[i]? = some (k, d) → ∃ (v : V) (u : Value), xs[i]? = some (k, v) ∧ Dn ⟨fw X, Z⟩ w1 H1 v d ∧ vs2[i]? = some (k, u) ∧ RelV v u := by
    intro i k d hi
    obtain ⟨⟨k', v⟩, h1, h2, h3⟩ := paired_at hkv hi
    obtain ⟨⟨k'', u⟩, h4, h5, h6⟩ := paired_at' kv2 h1
    simp only at h2 h3 h5 h6
    subst h2 h5
    exact ⟨v, u, h1, h3, h4, h6⟩
  have kat : ∀ (i : Nat) (k : Str), ks[i]? = some k → ∃ d, kvs[i]? = some (.inr k, d) := by
    intro i k hk
    have : (kvs.map (·.1))[i]? = some (.inr k) := by rw [hks, List.getElem?_map, hk]; rfl
    rw [List.getElem?_map] at this
    obtain ⟨⟨k', d⟩, h1, h2⟩ := Option.map_eq_some_iff.mp this
    simp only at h2
    subst h2
    exact ⟨d, h1⟩
  have ent : ∀ (i : Nat) (hi : i < es.size) (k : Key) (u : Value), vs2[i]? = some (k, u) → (mixKind X.prog X.w).is k es[i].key = true ∧ es[i].val = u := fun i hi k u h => hent i hi k u h
  have hkey : ∀ i (hi : i < es.size) k, ks[i]? = some k → ∃ t, es[i].key = .str k t := by
    intro i hi k hk
    obtain ⟨d, h1⟩ := kat i k hk
    obtain ⟨v, u, _, _, h2, _⟩ := at1 i _ d h1
    have h3 : keyIs (Sum.inr k) es[i].key = true := (ent i hi _ u h2).1
    rcases keyIs_shape h3 with ⟨i', t, e1, e2⟩ | ⟨z, t, e1, e2⟩
    · cases e1
    · cases e1; exact ⟨t, e2⟩
  refine SrtI.sorted_items (A := X.A) ks (I3.ok.hd hc) hview hraw (by rw [hes, lv, ← lxk]; exact hz) (by rw [hes, lv, lks]) hkey (by have := hr.units; omega)
    (fun T k2 g tk kp ⟨t, u, e4⟩ => lam0 (A := X.A.in1.in1) (s := { s3 with heap := g, toks := tk }) (kp _ _ hf) ?_ (I3.nolimit.keeps kp) hr.depth L (fun u => hbind pm ctv u c') hd e4) fun as Ls cc h' tk kp hal hG hLn hLa hL => ?_
  · obtain ⟨⟨oc, vsc, tc, b1, b2, b3⟩, _⟩ := I3.hok c' _ hco
    exact ⟨oc, vsc, tc, kp _ _ b1, b2, b3⟩
  have nd : as.Nodup := hG.rise.imp fun h => Nat.ne_of_lt h
  have asF : ∀ b ∈ as, H3 b = none ∧ s3.heap.get? b = none := fun b hb => ⟨I3.hok.fresh (Nat.le_of_lt (hG.above b hb)), Heap.get?_none_of_le (Nat.le_of_lt (hG.above b hb))⟩
  have hL3 : H3 Ls = none := hok_none I3.hok hLn
  have lookA : ∀ b kv, (as.zip xs).lookup b = some kv → b ∈ as := fun b kv h => by
    obtain ⟨i, h1, _⟩ := lookup_zip' h
    exact List.mem_of_getElem? h1
  let vsV : List V := ((as.zip ks).mergeSort SrtI.leS).map fun b => V.ref b.1
  let H4 : Hp := fun b => if b = Ls then some (.lst vsV) else match (as.zip xs).lookup b with
    | some kv => some (.tup [kV kv.1, kv.2])
    | none => H3 b
  have h4L : H4 Ls = some (.lst vsV) := if_pos rfl
  have h4p : ∀ b kv, (as.zip xs).lookup b = some kv → H4 b = some (.tup [kV kv.1, kv.2]) := fun b kv h => by
    show (if b = Ls then _ else _) = _
    rw [if_neg (fun z => hLa (by rw [← z]; exact lookA b kv h)), h]
  have h4o : ∀ b, b ≠ Ls → (as.zip xs).lookup b = none → H4 b = H3 b := fun b n h => by
    show (if b = Ls then _ else _) = _
    rw [if_neg n, h]
  have ag : ∀ b u, H3 b = some u → H4 b = some u := fun b u e => by
    have n1 : b ≠ Ls := ne_of_none e hL3
    cases q : (as.zip xs).lookup b with
    | none => rw [h4o b n1 q]; exact e
    | some kv => rw [(asF b (lookA b kv q)).1] at e; cases e
  have vlen : vsV.length ≤ sizeLine := by
    show (((as.zip ks).mergeSort SrtI.leS).map fun b => V.ref b.1).length ≤ sizeLine
    rw [List.length_map, List.length_mergeSort, List.length_zip, hal, hes, lv, lks, ← lxk]
    exact Nat.le_trans (Nat.min_le_left _ _) hz
  have I4 : Inv X pins σ H4 { s3 with heap := h', toks := tk } := by
    refine inv_lay I3 kp ag fun b u e n => ?_
    by_cases hb : b = Ls
    · subst hb
      rw [h4L] at e; cases e
      refine ⟨hLn, vlen, _, cc, ?_, hL⟩
      exact vals_map _
    · cases q : (as.zip xs).lookup b with
      | none => rw [h4o b hb q, n] at e; cases e
      | some kv =>
        rw [h4p b kv q] at e; cases e
        refine ⟨(asF b (lookA b kv q)).2, by show 2 ≤ sizeLine; decide, ?_⟩
        obtain ⟨i, h1, h2⟩ := lookup_zip' q
        obtain ⟨k, v⟩ := kv
        obtain ⟨⟨k', u⟩, h4, h5, h6⟩ := paired_at' kv2 h2
        simp only at h5 h6
        subst h5
        obtain ⟨hi, e6⟩ := hG.pairs i b h1
        obtain ⟨g1, g2⟩ := ent i hi _ u h4
        rw [g2] at e6
        have g1 : keyIs k es[i].key = true := g1
        refine ⟨[es[i].key, u], .cons ?_ (.cons h6 .nil), ⟨_, e6, rfl, _, rfl⟩⟩
        rcases keyIs_shape g1 with ⟨i', t, e1, e2⟩ | ⟨z, t, e1, e2⟩
        · rw [e2, e1]; exact ⟨t, rfl⟩
        · rw [e2, e1]; exact ⟨t, rfl⟩
  have ex4 : Ext w1 H3 w1 H4 := ⟨fun b o h1 h2 => ⟨h1, ag b o h2⟩, fun b kvs h _ => ⟨h, by obtain ⟨u, h2⟩ := (wk3.at_ b _ h).there; rw [h2]; exact ag b u h2⟩⟩
  have wk4 : Wk ⟨fw X, Z⟩ w1 H4 := wk3.ext ex4 fun b hb => by
    cases q : w1 b with
    | none => exact absurd q hb
    | some m =>
      obtain ⟨o, ho⟩ := (wk3.at_ b m q).there
      rw [ho]; exact ag b o ho
  refine ⟨.ref Ls, H4, I4, rfl, kq _ _ ⟨.lst ((kvs.mergeSort leP).map pairP), w1, ex1.trans (ex2.trans (ex3.trans ex4)), wk4, ?_, hQ⟩⟩
  refine .lst ⟨wk3.off hL3, wk3.nz hL3, h4L⟩ ?_
  have each : EachIs (fun (b : Addr × Str) (kv : Key × PV) => kv.1 = .inr b.2 ∧ Dn ⟨fw X, Z⟩ w1 H4 (.ref b.1) (pairP kv)) (as.zip ks) kvs := by
    refine EachIs.of_zip (by rw [List.length_zip, hal, hes, lv, lks]; omega) fun p hp => ?_
    obtain ⟨i, hi⟩ := List.mem_iff_getElem?.mp hp
    rw [List.getElem?_zip_eq_some] at hi
    obtain ⟨h1, h2⟩ := hi
    rw [List.getElem?_zip_eq_some] at h1
    obtain ⟨h3, h4⟩ := h1
    obtain ⟨d, h5⟩ := kat i _ h4
    rw [h2] at h5
    have h6 : p.2 = (.inr p.1.2, d) := Option.some.inj h5
    rw [h6] at h2
    obtain ⟨v, u, h7, h8, h9, h10⟩ := at1 i _ d h2
    refine ⟨by rw [h6], ?_⟩
    rw [h6]
    have hb := List.mem_of_getElem? h3
    refine .tup (.inl ⟨wk3.off (asF _ hb).1, wk3.nz (asF _ hb).1, .inl (h4p _ _ (lookup_zip nd h3 h7))⟩) (.cons ?_ (.cons ((h8.ext (ex2.trans ex3)).ext ex4) .nil))
    exact .str _
  have es2 := PySem.W.sort_each (r := SrtI.leS) (s := leP) each (fun p hp p' hp' => by
    have q1 := (EachIs.zip each p hp).1
    have q2 := (EachIs.zip each p' hp').1
    show decide _ = leP _ _
    unfold leP
    rw [q1, q2])
  have conv : ∀ {bs : List (Addr × Str)} {ks : List (Key × PV)}, EachIs (fun (b : Addr × Str) (kv : Key × PV) => kv.1 = .inr b.2 ∧ Dn ⟨fw X, Z⟩ w1 H4 (.ref b.1) (pairP kv)) bs ks → DnAll ⟨fw X, Z⟩ w1 H4 (bs.map fun b => V.ref b.1) (ks.map pairP) := by
    intro bs ks q
    induction q with
    | nil => exact .nil
    | cons h _ ih => exact .cons h.2 ih
  exact conv es2
end
end Pd

/-! dicts with numbers and texts for keys -/
namespace Pd
open PySem L2 PyProof.Rows RT
theorem kv_val {K : Kz} {w : Wd} {H : Hp} {xs : List (Key × V)} {ds : List (Key × PV)} (h : KvOk K w H xs ds) (k : Key) : (valV xs k = none ∧ getP ds k = none) ∨ ∃ v d, valV xs k = some v ∧ getP ds k = some d ∧ Dn K w H v d := by
  unfold KvOk at h
  induction h with
  | nil => exact .inl ⟨rfl, rfl⟩
  | @cons x y xs ys hx t ih =>
    by_cases e : x.1 = k
    · have e' : y.1 = k := hx.1.symm.trans e
      exact .inr ⟨x.2, y.2, by simp [valV, List.find?_cons, e], by simp [getP, List.find?_cons, e'], hx.2⟩
    · have e' : ¬ y.1 = k := fun z => e (hx.1.trans z)
      have b1 : valV (x :: xs) k = valV xs k := by simp [valV, List.find?_cons, e]
      have b2 : getP (y :: ys) k = getP ys k := by simp [getP, List.find?_cons, e']
      rw [b1, b2]; exact ih
/-! d[k], k in d -/
section
variable {X : Cx} {K : Fw}
def rDget : R2 := fun x y H Q => ∃ a v, x = .ref a ∧ DGet H a y (some v) ∧ Q v H
theorem ix_dk (hu : X.A.units + 1 < cLine) : IxR X rDget := by
  intro value slice pins s σ H x y v u Q I rx ry h hs
  obtain ⟨a, z, rfl, g, q⟩ := h
  obtain rfl : v = Value.ref a := rx
  exact tail_any (dict_typeIs I g) PySem.F.slot_dict_getitem.lookup (d_getItem hu I g ry fun w' s3 I3 rw' => ⟨z, H, I3, rw', q⟩) hs
def rDin (neg : Bool) : R2 := fun y x H Q => ∃ a o, x = .ref a ∧ DGet H a y o ∧ Q (.bl (if neg then !o.isSome else o.isSome)) H
theorem op_dk (hu : X.A.units + 1 < cLine) : OpR X (compareOp .In) (rDin false) := by
  intro pins s σ H y x u v Q I ry rx h
  obtain ⟨a, o, rfl, g, q⟩ := h
  obtain rfl : v = Value.ref a := rx
  exact d_in hu I g ry fun s3 I3 => ⟨.bl o.isSome, H, I3, rfl, q⟩
theorem op_ndk (hu : X.A.units + 1 < cLine) : OpR X (compareOp .NotIn) (rDin true) := by
  intro pins s σ H y x u v Q I ry rx h
  obtain ⟨a, o, rfl, g, q⟩ := h
  obtain rfl : v = Value.ref a := rx
  exact d_notIn hu I g ry fun s3 I3 => ⟨.bl (!o.isSome), H, I3, rfl, q⟩
/-- the dict at a -/
def onDct (x : PV) (w : Wd) (k : List (Key × PV) → Prop) (e : Prop) : Prop := match x with
  | .ref a => match w a with
    | some (.dct kvs) => k kvs
    | _ => e
  | _ => e
theorem onDct_or {x : PV} {w : Wd} {k : List (Key × PV) → Prop} {e : Prop} (h : onDct x w k e) : (∃ a kvs, x = .ref a ∧ w a = some (.dct kvs) ∧ k kvs) ∨ e := by
  unfold onDct at h
  split at h
  · split at h
    · rename_i q; exact .inl ⟨_, _, rfl, q, h⟩
    · exact .inr h
  · exact .inr h
def dIxX : R2D := fun x y w Q => onDct x w (fun kvs => ∃ k d, keyOf y = some k ∧ getP kvs k = some d ∧ Q d w) (dIx x y w Q)
def dInX (neg : Bool) : R2D := fun y x w Q => onDct x w (fun kvs => ∃ k, keyOf y = some k ∧ Q (.bl (if neg then !(getP kvs k).isSome else (getP kvs k).isSome)) w) (dIn neg y x w Q)
theorem l_dget {Z : Addr → Prop} {x y : V} {H : Hp} {a : Addr} {kvs : List (Key × PV)} {k : Key} {d dy : PV} {w : Wd} {Q' : WQ} {Q : VK} (wk : Wk ⟨K, Z⟩ w H) (nx : Dn ⟨K, Z⟩ w H x (.ref a)) (ny : Dn ⟨K, Z⟩ w H y dy) (hw : w a = some (.dct kvs)) (hk : keyOf dy = some k) (hd : getP kvs k = some d) (q : Q' d w) (kq : ∀ v H', Post ⟨K, Z⟩ w H Q' v H' → Q v H') : rDget x y H Q := by
  cases nx
  cases keyOf_v ny hk
  cases wk.at_ _ _ hw with
  | @dct xs _ h1 h2 =>
    rcases kv_val h2 k with ⟨_, z⟩ | ⟨v, d', e1, e2, e3⟩
    · rw [z] at hd; cases hd
    · rw [e2] at hd; cases hd
      refine ⟨a, v, rfl, ?_, kq _ _ (post_same wk e3 q)⟩
      have := DGet.k (k := k) h1
      rwa [e1] at this
theorem l_ix : L2op K (rIx K.F) dIx := by
  intro Z x y H dx dy w Q' Q k nx ny h kq
  unfold dIx at h
  split at h
  · rename_i e
    cases ny
    obtain ⟨p, ys, rfl, hh, hn⟩ := vwL k nx e
    obtain ⟨d, hd, q⟩ := h
    obtain ⟨v, h1, h2⟩ := atI_dn hn hd
    exact .inl ⟨p, ys, _, v, rfl, rfl, SqL.of hh, h1, kq _ _ (post_same k h2 q)⟩
  · rename_i e
    cases ny
    obtain ⟨p, ys, rfl, hh, hn⟩ := vwT nx e
    obtain ⟨d, hd, q⟩ := h
    obtain ⟨v, h1, h2⟩ := atI_dn hn hd
    exact .inr (.inl ⟨p, ys, _, v, rfl, rfl, hh.sq, h1, kq _ _ (post_same k h2 q)⟩)
  · rename_i e
    cases ny
    obtain ⟨p, ys, rfl, hh, hn⟩ := vwZ nx e
    obtain ⟨d, hd, q⟩ := h
    obtain ⟨v, h1, h2⟩ := atI_dn hn hd
    exact .inl ⟨p, ys, _, v, rfl, rfl, hh.sq, h1, kq _ _ (post_same k h2 q)⟩
  · rename_i e
    cases ny
    cases vwS nx e
    obtain ⟨hz, c, hc, q⟩ := h
    exact .inr (.inr ⟨_, _, c, rfl, rfl, hz, hc, kq _ _ (post_same k (.str _) q)⟩)
  · exact h.elim
theorem de_ixX {a b : Expr} {ta tb : WE} {pos : Pos} (hu : X.A.units + 64 < cLine) (ha : DE X a ta) (hb : DE X b tb) (hs : PlainIx b := by exact fun _ _ => rfl) : DE X (.Subscript a b pos) (wOp dIxX ta tb) := by
  refine pe_le (pe_ix (ix_seq.or (ix_dk (by omega))) ha hb hs) fun σ H Q ⟨Z, ρ, w, Q', rp, h, k⟩ => ?_
  refine up1 rp h fun x H1 dx w1 e1 rp1 n1 h1 => ?_
  refine up1 rp1 h1 fun y H2 dy w2 e2 rp2 n2 h2 => ?_
  rcases onDct_or h2 with ⟨a', kvs, rfl, hw, kk, d, hk, hd, q⟩ | h2
  · exact .inr (l_dget rp2.wk (n1.ext e2) n2 hw hk hd q fun v H' p => k v H' (post_trans (e1.trans e2) p))
  · exact .inl (l_ix Z x y H2 dx dy w2 Q' Q rp2.wk (n1.ext e2) n2 h2 fun v H' p => k v H' (post_trans (e1.trans e2) p))
theorem l_din {neg : Bool} {Z : Addr → Prop} {x y : V} {H : Hp} {a : Addr} {kvs : List (Key × PV)} {k : Key} {dy : PV} {w : Wd} {Q' : WQ} {Q : VK} (wk : Wk ⟨K, Z⟩ w H) (nx : Dn ⟨K, Z⟩ w H x (.ref a)) (ny : Dn ⟨K, Z⟩ w H y dy) (hw : w a = some (.dct kvs)) (hk : keyOf dy = some k) (q : Q' (.bl (if neg then !(getP kvs k).isSome else (getP kvs k).isSome)) w) (kq : ∀ v H', Post ⟨K, Z⟩ w H Q' v H' → Q v H') : rDin neg y x H Q := by
  cases nx
  cases keyOf_v ny hk
  cases wk.at_ _ _ hw with
  | @dct xs _ h1 h2 =>
    refine ⟨a, valV xs k, rfl, DGet.k h1, kq _ _ (post_same wk (.bl _) ?_)⟩
    rcases kv_val h2 k with ⟨z1, z2⟩ | ⟨v, d', e1, e2, e3⟩
    · rw [z1]; rw [z2] at q; exact q
    · rw [e1]; rw [e2] at q; exact q
theorem cm_inX (hu : X.A.units + 64 < cLine) : CmD X .In (dInX false) := by
  obtain ⟨r, ho, hl⟩ := (cm_in (X := X) hu).ex
  refine ⟨_, ho.or (op_dk (by omega)), fun Z x y H dx dy w Q' Q k nx ny h kq => ?_⟩
  rcases onDct_or h with ⟨a', kvs, rfl, hw, kk, hk, q⟩ | h
  · exact .inr (l_din k ny nx hw hk q kq)
  · exact .inl (hl Z x y H dx dy w Q' Q k nx ny h kq)
theorem cm_notinX (hu : X.A.units + 64 < cLine) : CmD X .NotIn (dInX true) := by
  obtain ⟨r, ho, hl⟩ := (cm_notin (X := X) hu).ex
  refine ⟨_, ho.or (op_ndk (by omega)), fun Z x y H dx dy w Q' Q k nx ny h kq => ?_⟩
  rcases onDct_or h with ⟨a', kvs, rfl, hw, kk, hk, q⟩ | h
  · exact .inr (l_din k ny nx hw hk q kq)
  · exact .inl (hl Z x y H dx dy w Q' Q k nx ny h kq)
/-! d.pop(k), d.get(k, e) -/
def delP (kvs : List (Key × PV)) (k : Key) : List (Key × PV) := kvs.filter fun kv => decide (kv.1 ≠ k)
theorem kv_del {K : Kz} {w : Wd} {H : Hp} {xs : List (Key × V)} {ds : List (Key × PV)} (h : KvOk K w H xs ds) (k : Key) : KvOk K w H (dropK xs k) (delP ds k) := by
  unfold KvOk at h ⊢
  induction h with
  | nil => exact .nil
  | @cons x y xs ys hx t ih =>
    unfold dropK delP
    rw [List.filter_cons, List.filter_cons]
    by_cases e : x.1 = k
    · rw [if_neg (by simpa using e), if_neg (by simpa [← hx.1] using e)]; exact ih
    · rw [if_pos (by simpa using e), if_pos (by simpa [← hx.1] using e)]; exact .cons hx ih
def rPopK (x y : PV) (w : Wd) (Q : WQ) : Prop := onDct x w (fun kvs => ∃ a k d, x = .ref a ∧ keyOf y = some k ∧ getP kvs k = some d ∧ Q d (wset w a (.dct (delP kvs k)))) False
def isDK (x : PV) (w : Wd) : Prop := onDct x w (fun _ => True) False
def wPopK (to ti : WE) : WE := fun ρ w Q => to ρ w fun x w1 => isDK x w1 ∧ ti ρ w1 fun y w2 => rPopK x y w2 Q
theorem isDK_at {Z : Addr → Prop} {x : V} {dx : PV} {H : Hp} {w : Wd} (wk : Wk ⟨K, Z⟩ w H) (n : Dn ⟨K, Z⟩ w H x dx) (h : isDK dx w) : ∃ a, x = .ref a ∧ dx = .ref a ∧ IsD H a := by
  rcases onDct_or h with ⟨a, kvs, rfl, hw, _⟩ | h
  · cases n
    cases wk.at_ _ _ hw with
    | dct h1 _ => exact ⟨a, rfl, rfl, .inl ⟨_, .inl h1⟩⟩
  · exact h.elim
theorem de_popK {o e : Expr} {to ti : WE} {apos cpos : Pos} (ho : DE X o to) (he : DE X e ti) (m : M1 X o "pop" apos e cpos) : DE X (.Call (.Attribute o "pop" apos) [e] [] cpos) (wPopK to ti) := by
  refine pe_le (pe_dpop1 ho he m) fun σ H Q ⟨Z, ρ, w, Q', rp, h, k⟩ => ?_
  refine up1 rp h fun x H1 dx w1 e1 rp1 n1 h1 => ?_
  obtain ⟨a, rfl, rfl, hd⟩ := isDK_at rp1.wk n1 h1.1
  refine ⟨a, rfl, hd, ?_⟩
  refine up1 rp1 h1.2 fun y H2 dy w2 e2 rp2 n2 h2 => ?_
  rcases onDct_or h2 with ⟨a', kvs, e0, hw, a2, kk, d, e3, hk, hg, q⟩ | h2
  · cases e0; cases e3
    cases keyOf_v n2 hk
    cases rp2.wk.at_ _ _ hw with
    | @dct xs _ b1 b2 =>
      rcases kv_val b2 kk with ⟨_, z⟩ | ⟨v, d', c1, c2, c3⟩
      · rw [z] at hg; cases hg
      · rw [c2] at hg; cases hg
        have ep : Ext w2 H2 (wset w2 a (.dct (delP kvs kk))) (upd H2 a (.dK (dropK xs kk))) := Ext.put hw
        exact ⟨xs, kk, v, b1, rfl, c1, k _ _ ⟨_, _, e1.trans (e2.trans ep), rp2.wk.put hw (.dct upd_same ((kv_del b2 kk).ext ep)), c3.ext ep, q⟩⟩
  · exact h2.elim
def rGetK (x y z : PV) (w : Wd) (Q : WQ) : Prop := onDct x w (fun kvs => ∃ k, keyOf y = some k ∧ Q ((getP kvs k).getD z) w) False
def wGetK (to ti tz : WE) : WE := fun ρ w Q => to ρ w fun x w1 => isDK x w1 ∧ ti ρ w1 fun y w2 => tz ρ w2 fun z w3 => rGetK x y z w3 Q
theorem de_getK {o e f : Expr} {to ti tz : WE} {apos cpos : Pos} (hu : X.A.units + 64 < cLine) (ho : DE X o to) (he : DE X e ti) (hf : DE X f tz) (m : M2 X o "get" apos e f cpos) : DE X (.Call (.Attribute o "get" apos) [e, f] [] cpos) (wGetK to ti tz) := by
  refine pe_le (pe_dget2 (by omega) ho he hf m) fun σ H Q ⟨Z, ρ, w, Q', rp, h, k⟩ => ?_
  refine up1 rp h fun x H1 dx w1 e1 rp1 n1 h1 => ?_
  obtain ⟨a, rfl, rfl, hd⟩ := isDK_at rp1.wk n1 h1.1
  refine ⟨a, rfl, hd, ?_⟩
  refine up1 rp1 h1.2 fun y H2 dy w2 e2 rp2 n2 h2 => up1 rp2 h2 fun z H3 dz w3 e3 rp3 n3 h3 => ?_
  rcases onDct_or h3 with ⟨a', kvs, e0, hw, kk, hk, q⟩ | h2
  · cases e0
    cases keyOf_v (n2.ext e3) hk
    cases rp3.wk.at_ _ _ hw with
    | @dct xs _ b1 b2 =>
      refine ⟨valV xs kk, DGet.k b1, k _ _ (post_trans (e1.trans (e2.trans e3)) ?_)⟩
      rcases kv_val b2 kk with ⟨z1, z2⟩ | ⟨v, d', c1, c2, c3⟩
      · rw [z1]; rw [z2] at q; exact post_same rp3.wk n3 q
      · rw [c1]; rw [c2] at q; exact post_same rp3.wk c3 q
  · exact h2.elim
end
end Pd

/-! dict(x), list(d.items()), loops over dicts -/
namespace Pd
open PySem L2 PyProof.Rows RT
def mergeP (kvs more : List (Key × PV)) : List (Key × PV) := more.foldl (fun acc kv => putP acc kv.1 kv.2) kvs
theorem kv_merge {K : Kz} {w : Wd} {H : Hp} : ∀ {more : List (Key × V)} {dm : List (Key × PV)} {xs : List (Key × V)} {ds : List (Key × PV)}, KvOk K w H more dm → KvOk K w H xs ds → KvOk K w H (mergeK xs more) (mergeP ds dm) := by
  intro more dm xs ds h
  unfold KvOk at h
  induction h generalizing xs ds with
  | nil => intro q; exact q
  | @cons p q ps qs hp _ ih =>
    intro hq
    show KvOk K w H (mergeK (putK xs p.1 p.2) ps) (mergeP (putP ds q.1 q.2) qs)
    rw [← hp.1]
    exact ih (kv_put hq hp.2)
/-- a pair with a key -/
def pairOf : PV → Option (Key × PV)
  | .tup [k, v] => (keyOf k).map fun x => (x, v)
  | _ => none
def pairsOf : List PV → Option (List (Key × PV))
  | [] => some []
  | d :: r => match pairOf d, pairsOf r with
    | some p, some ps => some (p :: ps)
    | _, _ => none
section
variable {X : Cx}
theorem pairOf_dn {K : Kz} {w : Wd} {H : Hp} {v : V} {d : PV} {k : Key} {e : PV} (n : Dn K w H v d) (h : pairOf d = some (k, e)) : ∃ T u, v = .ref T ∧ Tp K w H T [kV k, u] ∧ Dn K w H u e := by
  unfold pairOf at h
  split at h
  · rename_i k' v'
    obtain ⟨k2, h1, h2⟩ := Option.map_eq_some_iff.mp h
    cases h2
    cases n with
    | tup hp hn =>
      cases hn with
      | cons n1 r1 =>
        cases r1 with
        | cons n2 r2 =>
          cases r2
          cases keyOf_v n1 h1
          exact ⟨_, _, rfl, hp, n2⟩
  · cases h
theorem pairs_raw {pins : List (Addr × Obj)} {σ : L2.St} {H : Hp} {s : Shared} {Z : Addr → Prop} {w : Wd} (I : Inv X pins σ H s) : ∀ {vs : List V} {ds : List PV} {us : List Value} {kvs : List (Key × PV)}, DnAll ⟨fw X, Z⟩ w H vs ds → Vals vs us → pairsOf ds = some kvs →
    ∃ (ts : List Addr) (xs : List (Key × V)) (rs : List (Key × Value)) (ps : List (Value × Value)), us = ts.map Value.ref ∧ ts.length = ps.length ∧ (∀ (j : Nat) k v, ps[j]? = some (k, v) → ∃ T, ts[j]? = some T ∧ s.heap.IsTuple T #[k, v]) ∧ KV xs rs ∧ KvOk ⟨fw X, Z⟩ w H xs kvs ∧ rs.length = ps.length ∧
      ∀ (i : Nat) key v, ps[i]? = some (key, v) → ∃ k, rs[i]? = some (k, v) ∧ (mixKind X.prog X.w).is k key = true
  | _, _, _, kvs, .nil, r, h => by
    cases r
    cases h
    exact ⟨[], [], [], [], rfl, rfl, fun j k v h => by simp at h, .nil, .nil, rfl, fun j k v h => by simp at h⟩
  | _, _, _, kvs, @DnAll.cons _ _ _ v vs d ds n nr, r, h => by
    cases r with
    | @cons _ _ u us ru rr =>
    simp only [pairsOf] at h
    cases e1 : pairOf d with
    | none => rw [e1] at h; simp at h
    | some p =>
      cases e2 : pairsOf ds with
      | none => rw [e1, e2] at h; simp at h
      | some pr =>
        rw [e1, e2] at h
        cases h
        obtain ⟨k, e⟩ := p
        obtain ⟨T, v2, rfl, tp, n2⟩ := pairOf_dn n e1
        obtain ⟨ts, xs, rs, ps, a1, a2, a3, a4, a5, a6, a7⟩ := pairs_raw I nr rr e2
        obtain ⟨its, rv, pt, _⟩ := I.tuple tp.sq
        cases rv with
        | @cons _ u1 _ _ r1 r2 =>
        cases r2 with
        | @cons _ u2 _ _ r3 r4 =>
        cases r4
        cases ru
        refine ⟨T :: ts, (k, v2) :: xs, (k, u2) :: rs, (u1, u2) :: ps, by rw [a1]; rfl, by simp [a2], fun j kk vv hj => ?_, .cons ⟨rfl, r3⟩ a4, .cons ⟨rfl, n2⟩ a5, by simp [a6], fun j kk vv hj => ?_⟩
        · cases j with
          | zero => simp at hj; obtain ⟨rfl, rfl⟩ := hj; exact ⟨T, rfl, pt⟩
          | succ j => obtain ⟨T', b1, b2⟩ := a3 j kk vv (by simpa using hj); exact ⟨T', by simpa using b1, b2⟩
        · cases j with
          | zero => simp at hj; obtain ⟨rfl, rfl⟩ := hj; exact ⟨k, rfl, kV_is r1⟩
          | succ j => obtain ⟨k', b1, b2⟩ := a7 j kk vv (by simpa using hj); exact ⟨k', by simpa using b1, b2⟩
def cDict : RcD := fun ds w Q => match ds with
  | [.lst es] => ∃ kvs, pairsOf es = some kvs ∧ ∀ p, w p = none → Q (.ref p) (wset w p (.dct (mergeP [] kvs)))
  | [.tpl es] => ∃ kvs, pairsOf es = some kvs ∧ ∀ p, w p = none → Q (.ref p) (wset w p (.dct (mergeP [] kvs)))
  | [.ref a] => match w a with
    | some (.dct kvs) => ∀ p, w p = none → Q (.ref p) (wset w p (.dct kvs))
    | _ => False
  | _ => False
theorem mergeK_length (ps : List (Key × V)) : ∀ xs : List (Key × V), (mergeK xs ps).length ≤ xs.length + ps.length := by
  induction ps with
  | nil => intro xs; simp [mergeK]
  | cons p ps ih =>
    intro xs
    show (mergeK (putK xs p.1 p.2) ps).length ≤ _
    have h1 := ih (putK xs p.1 p.2)
    have h2 := length_putK xs p.1 p.2
    simp only [List.length_cons]
    omega
theorem dict_of_pairs {pins : List (Addr × Obj)} {σ : L2.St} {H : Hp} {s : Shared} {Z : Addr → Prop} {w : Wd} {T : String} {a : Addr} {xs : List V} {ds : List PV} {kvs : List (Key × PV)} {Q' : WQ} {Q : VK} (hc : X.calm = true) (I : Inv X pins σ H s) (k : Wk ⟨fw X, Z⟩ w H) (hT : T = "list" ∨ T = "tuple")
    (hs : ∃ its : List Value, Vals xs its ∧ PlainSeq T s.heap a its.toArray ∧ xs.length ≤ sizeLine) (n : DnAll ⟨fw X, Z⟩ w H xs ds) (hp : pairsOf ds = some kvs) (q : ∀ p, w p = none → Q' (.ref p) (wset w p (.dct (mergeP [] kvs)))) (kq : ∀ v H', Post ⟨fw X, Z⟩ w H Q' v H' → Q v H') :
    wpAny (model X.prog X.w) X.A (call (.type "dict") [.ref a]) (EP X pins σ Q) X.xe s := by
  obtain ⟨its, rv, pl, hz⟩ := hs
  obtain ⟨ts, ys, rs, ps, a1, a2, a3, a4, a5, a6, a7⟩ := pairs_raw I n rv hp
  have lx : xs.length = ps.length := by rw [rv.length, a1, List.length_map, a2]
  have ok : PlainSeq T s.heap a its.toArray ∧ PairItems s.heap its.toArray (fun j => ts.getD j 0) ps := by
    refine ⟨pl, by simp [a1, a2], fun j kk v hj => ?_⟩
    obtain ⟨t, b1, b2⟩ := a3 j kk v hj
    refine ⟨?_, .inl ?_⟩
    · simp [a1, List.getElem?_map, b1, List.getD]
    · simpa [List.getD, b1] using b2
  have fin : ∀ h' tk, h'.DictOf (mixKind X.prog X.w) s.heap.objs.size (merged [] rs) → (∀ b o, b ∉ ([] : List Addr) → s.heap.get? b = some o → h'.get? b = some o) → EP X pins σ Q (.ref s.heap.objs.size) { s with heap := h', toks := tk } := fun h' tk dd kp => by
    have hl : (mergeK [] ys).length ≤ sizeLine := by
      have := mergeK_length ys []
      have l1 : ys.length = rs.length := a4.length
      simp only [List.length_nil] at this
      omega
    refine ⟨.ref s.heap.objs.size, upd H s.heap.objs.size (.dK (mergeK [] ys)), I.laid (fun b o e => kp b o (by simp) e) (Nat.le_refl _) (dk_new hl (beq_eq_false_iff_ne.mpr (Ne.symm (Nat.ne_of_lt I.big))) (a4.merge .nil) dd), rfl, kq _ _ ?_⟩
    refine post_new k I.fresh (fun e => .dct upd_same ?_) (q _ (k.off I.fresh))
    exact KvOk.ext e (kv_merge a5 .nil)
  rcases hT with rfl | rfl
  · exact call_dict_pairs (PairArg.list a its.toArray (fun j => ts.getD j 0) ps) (I.ok.hd hc) ok ⟨a6, a7⟩ (by rw [← lx]; exact hz) fin
  · exact call_dict_pairs (PairArg.tuple a its.toArray (fun j => ts.getD j 0) ps) (I.ok.hd hc) ok ⟨a6, a7⟩ (by rw [← lx]; exact hz) fin
theorem ca_dict (hc : X.calm = true) : CaD X (.type "dict") cDict := by
  refine ⟨fun xs H Q => ∃ Z ds w Q', Wk ⟨fw X, Z⟩ w H ∧ DnAll ⟨fw X, Z⟩ w H xs ds ∧ cDict ds w Q' ∧ ∀ v H', Post ⟨fw X, Z⟩ w H Q' v H' → Q v H', fun pins s σ H xs us Q I rv ⟨Z, ds, w, Q', k, n, h, kq⟩ => ?_, fun Z xs H ds w Q' Q k n h kq => ⟨Z, ds, w, Q', k, n, h, kq⟩⟩
  unfold cDict at h
  split at h
  · obtain ⟨v, rfl, n1⟩ := dall1 n
    obtain ⟨kvs, hp, q⟩ := h
    cases n1 with
    | lst hl hn =>
      cases rv with
      | cons r0 r1 =>
      cases r1
      cases r0
      obtain ⟨its, rv, pl, hz⟩ := I.list hl.sq
      exact dict_of_pairs hc I k (.inl rfl) ⟨its, rv, pl, hz⟩ hn hp q kq
  · obtain ⟨v, rfl, n1⟩ := dall1 n
    obtain ⟨kvs, hp, q⟩ := h
    cases n1 with
    | tpl hl hn =>
      cases rv with
      | cons r0 r1 =>
      cases r1
      cases r0
      obtain ⟨_, _, ob, h3, h4⟩ := hl
      obtain ⟨ho, hz, its, rv, ⟨o, g1, g2, g3, g4⟩⟩ := I.hok _ _ h3
      have e : o = ob := Option.some.inj (g1.symm.trans ho)
      subst e
      exact dict_of_pairs hc I k (.inr rfl) ⟨its, rv, ⟨o, g3, g1, g2, h4, g4⟩, hz⟩ hn hp q kq
  · obtain ⟨v, rfl, n1⟩ := dall1 n
    split at h
    · rename_i hw
      cases n1
      cases rv with
      | cons r0 r1 =>
      cases r1
      cases r0
      cases k.at_ _ _ hw with
      | dct h1 h2 =>
        exact d_copyOf I (.inl h1) fun p s' hp I' => ⟨.ref p, _, I', rfl, kq _ _ (post_new k hp (fun e => .dct upd_same (KvOk.ext e h2)) (h p (k.off hp)))⟩
    · exact h.elim
  · exact h.elim
end
end Pd

/-! tuple(list), its object known; list(d.items()) -/
namespace Pd
open PySem L2 PyProof.Rows RT
section
variable {X : Cx}
theorem call_tuple_frz : CallR X (.type "tuple") (fun xs H Q => ∃ p ys, xs = [.ref p] ∧ SqL X.K H p ys ∧ ∀ l ob, H l = none → ob.dict = none → Q (.ref l) (upd H l (.frz ob (.tup ys)))) := by
  intro pins s σ H xs us Q I r h
  obtain ⟨p, ys, rfl, hq, q⟩ := h
  obtain ⟨u, rfl, rx⟩ := vals1 r
  cases rx
  obtain ⟨its, r', pl, hz⟩ := I.list hq
  have hlen := r'.length
  refine call_tuple_list pl.isList (fun h' kp => ?_) (by simp only [List.size_toArray] <;> omega)
  have I1 : Inv X pins σ H { s with heap := h' } := I.kept (t' := s.toks) kp
  have I2 : Inv X pins σ (upd H h'.objs.size (.frz { cls := .type "tuple", data := .seq its.toArray } (.tup ys))) { s with heap := h'.push { cls := .type "tuple", data := .seq its.toArray } } :=
    I1.laid (t' := s.toks) (fun b o e => Heap.get?_push_of_some _ e) (Nat.le_refl _) ⟨Heap.get?_push_size _ rfl, hz, its, r', IsTup.new _ _⟩
  exact ⟨.ref h'.objs.size, _, I2, rfl, q _ _ (I1.hok.fresh (Nat.le_refl _)) rfl⟩
theorem post_tpl {K : Kz} {w : Wd} {H : Hp} {Q : WQ} {xs : List V} {ds : List PV} {p : Addr} {ob : Obj} (k : Wk K w H) (hp : H p = none) (ho : ob.dict = none) (n : DnAll K w H xs ds) (q : Q (.tpl ds) w) : Post K w H Q (.ref p) (upd H p (.frz ob (.tup xs))) :=
  ⟨.tpl ds, w, Ext.new k hp, k.new hp, .tpl ⟨k.off hp, k.nz hp, ob, upd_same, ho⟩ (n.ext (Ext.new k hp)), q⟩
/-- tuple(x) of a list: a tuple that has no dict -/
def cTupP : RcD := fun ds w Q => match ds with
  | [.lst es] => Q (.tpl es) w
  | _ => False
theorem ca_tupP : CaD X (.type "tuple") cTupP := by
  refine ⟨_, call_tuple_frz, fun Z xs H ds w Q' Q k n h kq => ?_⟩
  unfold cTupP at h
  split at h
  · obtain ⟨v, rfl, n1⟩ := dall1 n
    cases n1 with
    | lst hl hn => exact ⟨_, _, rfl, hl.sq, fun l ob hl ho => kq _ _ (post_tpl k hl ho hn h)⟩
  · exact h.elim
end
end Pd

/-! dicts and lists that are walked: locked meanwhile -/
namespace Pd
open PySem L2 PyProof.Rows RT
def MO.lock : MO → MO
  | .dct k => .dcl k
  | .lst x => .lcl x
  | m => m
def MO.canL : MO → Bool
  | .dct _ => true
  | .lst _ => true
  | _ => false
theorem canL_lock {m : MO} (h : m.canL = true) : m.lock.isL = true ∧ m.isL = false := by
  cases m <;> first | exact ⟨rfl, rfl⟩ | cases h
theorem mok_lock {K : Kz} {w : Wd} {H : Hp} {a : Addr} {m : MO} (k : MOk K w H a m) (c : m.canL = true) : ∃ u, H a = some u ∧ Mut (some u) ∧ (∀ w' H' od, Ext0 w H w' H' → H' a = some (.frz od u) → MOk K w' H' a m.lock) ∧
    ∀ w1 H1 od, MOk K w1 H1 a m.lock → H1 a = some (.frz od u) → ∀ w' H', Ext0 w1 H1 w' H' → H' a = some u → MOk K w' H' a m := by
  cases k with
  | lst h1 h2 =>
    refine ⟨_, h1, True.intro, fun w' H' od e h => .lcl h (h2.ext0 e), fun w1 H1 od k1 e1 w' H' e h => ?_⟩
    cases k1 with
    | lcl g1 g2 => rw [e1] at g1; cases g1; exact .lst h (g2.ext0 e)
  | dct h1 h2 =>
    refine ⟨_, h1, True.intro, fun w' H' od e h => .dcl h (KvOk.ext0 e h2), fun w1 H1 od k1 e1 w' H' e h => ?_⟩
    cases k1 with
    | dcl g1 g2 => rw [e1] at g1; cases g1; exact .dct h (KvOk.ext0 e g2)
  | _ => cases c
theorem unlock0 {w : Wd} {H : Hp} {a : Addr} {m m' : MO} {o : HO} (hw : w a = some m') : Ext0 w H (wset w a m) (upd H a o) := fun b u h1 h2 => by
  have q : b ≠ a := fun z => by rw [z, hw] at h1; cases h1
  exact ⟨by rw [wset_ne q]; exact h1, by rw [upd_ne q]; exact h2⟩
theorem wk_unlock {K : Kz} {w : Wd} {H : Hp} {a : Addr} {m : MO} {u : HO} (k : Wk K w H) (hw : w a = some m.lock) (new : MOk K (wset w a m) (upd H a u) a m) : Wk K (wset w a m) (upd H a u) := by
  have e : Ext0 w H (wset w a m) (upd H a u) := unlock0 hw
  refine ⟨fun b x hb => ?_, fun b z => ?_⟩
  · by_cases q : b = a
    · subst q
      rw [wset_same] at hb
      cases hb
      exact new
    · rw [wset_ne q] at hb
      have hh : upd H a u b = H b := upd_ne q
      cases k.at_ b x hb with
      | lst h1 h2 => exact .lst (hh.trans h1) (h2.ext0 e)
      | lcl h1 h2 => exact .lcl (hh.trans h1) (h2.ext0 e)
      | dct h1 h2 => exact .dct (hh.trans h1) (KvOk.ext0 e h2)
      | dcl h1 h2 => exact .dcl (hh.trans h1) (KvOk.ext0 e h2)
      | dcp h1 h2 => exact .dcp (hh.trans h1) (KpOk.ext0 e h2)
      | ins h1 h2 => exact .ins (hh.trans h1) (KvOk.ext0 e h2)
      | tab h1 h2 => exact .tab (hh.trans h1) (h2.ext0 e)
  · obtain ⟨h1, u, h2⟩ := k.zin b z
    exact ⟨(e b u h1 h2).1, u, (e b u h1 h2).2⟩
theorem ext_unlock {w w' : Wd} {H H' : Hp} {a : Addr} {m : MO} {u : HO} {od : Obj} (hw : w a = some m) (hm : m.canL = true) (e : Ext (wset w a m.lock) (upd H a (.frz od u)) w' H') : w' a = some m.lock ∧ H' a = some (.frz od u) ∧ Ext w H (wset w' a m) (upd H' a u) := by
  obtain ⟨m1, m2⟩ := canL_lock hm
  have l := e.lck a _ wset_same m1
  rw [upd_same] at l
  refine ⟨l.1, l.2, ⟨fun b o h1 h2 => ?_, fun b ks h hl => ?_⟩⟩
  · have q : b ≠ a := fun z => by rw [z, hw] at h1; cases h1
    have := e b o (by rw [wset_ne q]; exact h1) (by rw [upd_ne q]; exact h2)
    exact ⟨by rw [wset_ne q]; exact this.1, by rw [upd_ne q]; exact this.2⟩
  · have q : b ≠ a := fun z => by rw [z, hw] at h; cases h; rw [m2] at hl; cases hl
    have := e.lck b ks (by rw [wset_ne q]; exact h) hl
    exact ⟨by rw [wset_ne q]; exact this.1, by rw [upd_ne q, this.2, upd_ne q]⟩
/-- what stands at a is locked meanwhile -/
def wLock (t : WS) : WS := fun E ρ w => ∃ a m, w a = some m ∧ m.canL = true ∧ t ⟨fun ρ' w' => w' a = some m.lock → E.nx ρ' (wset w' a m), fun d w' => w' a = some m.lock → E.rt d (wset w' a m), fun ρ' w' => w' a = some m.lock → E.bk ρ' (wset w' a m), fun ρ' w' => w' a = some m.lock → E.ct ρ' (wset w' a m)⟩ ρ (wset w a m.lock)
def wLockE (t : WE) : WE := fun ρ w Q => ∃ a m, w a = some m ∧ m.canL = true ∧ t ρ (wset w a m.lock) fun d w' => w' a = some m.lock → Q d (wset w' a m)
section
variable {X : Cx}
theorem ds_lock {st : Stmt} {t : WS} (h : DS X st t) : DS X st (wLock t) := by
  refine ps_le (ps_lock h) fun D σ H ⟨Z, ρ, w, E, r, ⟨a, m, hw, hm, h⟩, k⟩ => ?_
  obtain ⟨u, h1, h2, h3, h4⟩ := mok_lock (r.wk.at_ _ _ hw) hm
  refine ⟨a, u, h1, h2, fun od => ?_⟩
  have e : Ext w H (wset w a m.lock) (upd H a (.frz od u)) := Ext.put hw (canL_lock hm).2
  have back : ∀ w' H', Wk ⟨fw X, Z⟩ w' H' → w' a = some m.lock → H' a = some (.frz od u) → Wk ⟨fw X, Z⟩ (wset w' a m) (upd H' a u) := fun w' H' k' l1 l2 => wk_unlock k' l1 (h4 _ _ od (k'.at_ _ _ l1) l2 _ _ (unlock0 l1) upd_same)
  refine ⟨Z, ρ, _, _, r.ext e (r.wk.put hw (h3 _ _ od e.std upd_same) (canL_lock hm).2), h, ?_, ?_, ?_, ?_⟩
  · intro σ' H' ρ' w' e' r' q
    obtain ⟨l1, l2, l3⟩ := ext_unlock hw hm e'
    exact ⟨l2, k.nx _ _ _ _ l3 ⟨r'.len, fun i d hi => by obtain ⟨v, z1, z2⟩ := r'.sl i d hi; exact ⟨v, z1, z2.ext0 (unlock0 l1)⟩, back _ _ r'.wk l1 l2⟩ (q l1)⟩
  · intro v H' ⟨d, w', e', k', n', q⟩
    obtain ⟨l1, l2, l3⟩ := ext_unlock hw hm e'
    exact ⟨l2, k.rt _ _ ⟨d, _, l3, back _ _ k' l1 l2, n'.ext0 (unlock0 l1), q l1⟩⟩
  · intro σ' H' ρ' w' e' r' q
    obtain ⟨l1, l2, l3⟩ := ext_unlock hw hm e'
    exact ⟨l2, k.bk _ _ _ _ l3 ⟨r'.len, fun i d hi => by obtain ⟨v, z1, z2⟩ := r'.sl i d hi; exact ⟨v, z1, z2.ext0 (unlock0 l1)⟩, back _ _ r'.wk l1 l2⟩ (q l1)⟩
  · intro σ' H' ρ' w' e' r' q
    obtain ⟨l1, l2, l3⟩ := ext_unlock hw hm e'
    exact ⟨l2, k.ct _ _ _ _ l3 ⟨r'.len, fun i d hi => by obtain ⟨v, z1, z2⟩ := r'.sl i d hi; exact ⟨v, z1, z2.ext0 (unlock0 l1)⟩, back _ _ r'.wk l1 l2⟩ (q l1)⟩
theorem de_lock {e : Expr} {t : WE} (h : DE X e t) : DE X e (wLockE t) := by
  refine pe_le (pe_lock h) fun σ H Q ⟨Z, ρ, w, Q', r, ⟨a, m, hw, hm, h⟩, k⟩ => ?_
  obtain ⟨u, h1, h2, h3, h4⟩ := mok_lock (r.wk.at_ _ _ hw) hm
  refine ⟨a, u, h1, h2, fun od => ?_⟩
  have e : Ext w H (wset w a m.lock) (upd H a (.frz od u)) := Ext.put hw (canL_lock hm).2
  refine ⟨Z, ρ, _, _, r.ext e (r.wk.put hw (h3 _ _ od e.std upd_same) (canL_lock hm).2), h, ?_⟩
  intro v H' ⟨d, w', e', k', n', q⟩
  obtain ⟨l1, l2, l3⟩ := ext_unlock hw hm e'
  exact ⟨l2, k _ _ ⟨d, _, l3, wk_unlock k' l1 (h4 _ _ od (k'.at_ _ _ l1) l2 _ _ (unlock0 l1) upd_same), n'.ext0 (unlock0 l1), q l1⟩⟩
/-! keys, pairs of a locked dict; items of a locked list -/
def onLck (x : PV) (w : Wd) (k : List (Key × PV) → Prop) : Prop := match x with
  | .ref a => match w a with
    | some (.dcl kvs) => k kvs
    | _ => False
  | _ => False
theorem onLck_at {x : PV} {w : Wd} {k : List (Key × PV) → Prop} (h : onLck x w k) : ∃ a kvs, x = .ref a ∧ w a = some (.dcl kvs) ∧ k kvs := by
  unfold onLck at h
  split at h
  · split at h
    · rename_i q; exact ⟨_, _, rfl, q, h⟩
    · exact h.elim
  · exact h.elim
def onLckL (x : PV) (w : Wd) (k : List PV → Prop) : Prop := match x with
  | .ref a => match w a with
    | some (.lcl ds) => k ds
    | _ => False
  | _ => False
theorem onLckL_at {x : PV} {w : Wd} {k : List PV → Prop} (h : onLckL x w k) : ∃ a ds, x = .ref a ∧ w a = some (.lcl ds) ∧ k ds := by
  unfold onLckL at h
  split at h
  · split at h
    · rename_i q; exact ⟨_, _, rfl, q, h⟩
    · exact h.elim
  · exact h.elim
def wKeysL (te : WE) : WI := fun ρ w Q => te ρ w fun x w1 => onLck x w1 fun kvs => Q (kvs.map fun p => kD p.1) w1
def wValsL (te : WE) : WI := fun ρ w Q => te ρ w fun x w1 => onLck x w1 fun kvs => Q (kvs.map fun p => p.2) w1
def wItemsL (te : WE) : WI := fun ρ w Q => te ρ w fun x w1 => onLck x w1 fun kvs => Q (kvs.map fun p => .tup [kD p.1, p.2]) w1
def wSeqL (te : WE) : WI := fun ρ w Q => te ρ w fun x w1 => onLckL x w1 fun ds => Q ds w1
theorem kD_dn {K : Kz} {w : Wd} {H : Hp} (k : Key) : Dn K w H (kV k) (kD k) := by
  cases k with
  | inl i => exact .int i
  | inr x => exact .str x
theorem kv_at {K : Kz} {w : Wd} {H : Hp} {xs : List (Key × V)} {ds : List (Key × PV)} (h : KvOk K w H xs ds) {i : Nat} {k : Key} {v : V} (e : xs[i]? = some (k, v)) : ∃ d, ds[i]? = some (k, d) ∧ Dn K w H v d := by
  obtain ⟨⟨k', d⟩, e1, e2, e3⟩ := paired_at' h e
  simp only at e2 e3
  subst e2
  exact ⟨d, e1, e3⟩
theorem itd_keys {K : Kz} {w : Wd} {H : Hp} {a : Addr} {od : Obj} {xs : List (Key × V)} {kvs : List (Key × PV)} (hw : w a = some (.dcl kvs)) (ha : H a = some (.frz od (.dK xs))) (n : KvOk K w H xs kvs) : ItD K (Itk a od xs) w H (kvs.map fun p => kD p.1) where
  go := fun i w' H' e hi => ⟨(e.lck a _ hw rfl).2.trans ha, by rw [List.length_map] at hi; rw [n.length]; exact hi⟩
  yld := fun i w' H' x H'' Z' e z k hi ⟨h1, kk, v, h2, h3⟩ => by
    subst h1; subst h3
    obtain ⟨d, q1, q2⟩ := kv_at n h2
    exact ⟨kD kk, by rw [List.getElem?_map, q1]; rfl, Ext.refl _ _, k, kD_dn kk⟩
  stop := fun w' H' e => ⟨(e.lck a _ hw rfl).2.trans ha, by rw [List.length_map, n.length]; exact Nat.le_refl _⟩
theorem itd_vals {K : Kz} {w : Wd} {H : Hp} {a : Addr} {od : Obj} {xs : List (Key × V)} {kvs : List (Key × PV)} (hw : w a = some (.dcl kvs)) (ha : H a = some (.frz od (.dK xs))) (n : KvOk K w H xs kvs) : ItD K (Itd a od xs) w H (kvs.map fun p => p.2) where
  go := fun i w' H' e hi => ⟨(e.lck a _ hw rfl).2.trans ha, by rw [List.length_map] at hi; rw [n.length]; exact hi⟩
  yld := fun i w' H' x H'' Z' e z k hi ⟨h1, kk, h2⟩ => by
    subst h1
    obtain ⟨d, q1, q2⟩ := kv_at n h2
    exact ⟨d, by rw [List.getElem?_map, q1]; rfl, Ext.refl _ _, k, (q2.hide z).ext e⟩
  stop := fun w' H' e => ⟨(e.lck a _ hw rfl).2.trans ha, by rw [List.length_map, n.length]; exact Nat.le_refl _⟩
theorem itd_items {K : Kz} {w : Wd} {H : Hp} {a : Addr} {od : Obj} {xs : List (Key × V)} {kvs : List (Key × PV)} (hw : w a = some (.dcl kvs)) (ha : H a = some (.frz od (.dK xs))) (n : KvOk K w H xs kvs) : ItD K (Iti a od xs) w H (kvs.map fun p => .tup [kD p.1, p.2]) where
  go := fun i w' H' e hi => ⟨(e.lck a _ hw rfl).2.trans ha, by rw [List.length_map] at hi; rw [n.length]; exact hi⟩
  yld := fun i w' H' x H'' Z' e z k hi ⟨T, kk, v, h2, h3, h4, h5⟩ => by
    subst h3; subst h5
    obtain ⟨d, q1, q2⟩ := kv_at n h2
    exact ⟨.tup [kD kk, d], by rw [List.getElem?_map, q1]; rfl, Ext.new k h4, k.new h4, .tup (.inl ⟨k.off h4, k.nz h4, .inl upd_same⟩) (.cons (kD_dn kk) (.cons (((q2.hide z).ext e).ext (Ext.new k h4)) .nil))⟩
  stop := fun w' H' e => ⟨(e.lck a _ hw rfl).2.trans ha, by rw [List.length_map, n.length]; exact Nat.le_refl _⟩
variable {tg e : Expr} {te : WE} {apos cpos : Pos}
theorem di_keysL (he : DE X e te) : DI X tg e (wKeysL te) :=
  pi_le (pi_keys he) fun σ H R ⟨Z, ρ, w, Q', r, h, k⟩ => up1 r h fun x H1 d w1 e1 r1 n h1 => by
    obtain ⟨a, kvs, rfl, hw, q⟩ := onLck_at h1
    cases n
    cases r1.wk.at_ _ _ hw with
    | dcl h2 h3 => exact ⟨a, _, rfl, .inl ⟨_, h2, k _ _ _ _ e1 r1.wk (itd_keys hw h2 h3) q⟩⟩
theorem di_valsL (he : DE X e te) (hbase : attributeBase e "values" X.env (eval e X.env) = eval e X.env := by rfl) (hline : (apos.endLine == cpos.line) = true := by rfl) : DI X tg (.Call (.Attribute e "values" apos) [] [] cpos) (wValsL te) :=
  pi_le (pi_values he hbase hline) fun σ H R ⟨Z, ρ, w, Q', r, h, k⟩ => up1 r h fun x H1 d w1 e1 r1 n h1 => by
    obtain ⟨a, kvs, rfl, hw, q⟩ := onLck_at h1
    cases n
    cases r1.wk.at_ _ _ hw with
    | dcl h2 h3 => exact ⟨a, _, _, rfl, h2, k _ _ _ _ e1 r1.wk (itd_vals hw h2 h3) q⟩
theorem di_itemsL {elts : List Expr} {kk : Nat} {tpos : Pos} (he : DE X e te) (hbase : attributeBase e "items" X.env (eval e X.env) = eval e X.env := by rfl) (hline : (apos.endLine == cpos.line) = true := by rfl) : DI X (.Tuple elts kk tpos) (.Call (.Attribute e "items" apos) [] [] cpos) (wItemsL te) :=
  pi_le (pi_items he hbase hline) fun σ H R ⟨Z, ρ, w, Q', r, h, k⟩ => up1 r h fun x H1 d w1 e1 r1 n h1 => by
    obtain ⟨a, kvs, rfl, hw, q⟩ := onLck_at h1
    cases n
    cases r1.wk.at_ _ _ hw with
    | dcl h2 h3 => exact ⟨a, _, _, rfl, h2, k _ _ _ _ e1 r1.wk (itd_items hw h2 h3) q⟩
theorem di_seqL (he : DE X e te) : DI X tg e (wSeqL te) :=
  pi_le (pi_val he) fun σ H R ⟨Z, ρ, w, Q', r, h, k⟩ => up1 r h fun x H1 d w1 e1 r1 n h1 => by
    obtain ⟨a, ds, rfl, hw, q⟩ := onLckL_at h1
    cases n
    cases r1.wk.at_ _ _ hw with
    | lcl h2 h3 => exact .inl ⟨a, _, rfl, .inl (.inr ⟨_, h2⟩), k _ _ _ _ e1 r1.wk (itd_list (fun w' H' e => .inl (.inr ⟨_, (e.lck a _ hw rfl).2.trans h2⟩)) h3) q⟩
end
/-! list.insert -/
section
variable {X : Cx}
def mInsert : PV → List PV → Wd → WQ → Prop := fun d es w Q => match d, es with
  | .ref a, [.int i, y] => match w a with
    | some (.lst ds) => (ds.length < sizeLine ∧ 0 ≤ i ∧ i < 2 ^ 63) ∧ Q .non (wset w a (.lst (ds.take i.toNat ++ [y] ++ ds.drop i.toNat)))
    | _ => False
  | _, _ => False
theorem me_insert : MeD X "insert" isM mInsert := by
  refine ⟨"list", "list.insert", _, PySem.F.plainAttrs_list, PySem.F.slot_list_insert, PySem.F.type_list_insert, mt_insert, fun Z w H x d k n h => ?_, fun Z x xs H d ds w Q' Q k n na h kq => ?_⟩
  · obtain ⟨a, ds, xs, rfl, rfl, h1, h2, h3⟩ := isM_ty k n h
    exact .inl ⟨rfl, _, SqL.of h2⟩
  · unfold mInsert at h
    split at h
    · split at h
      · rename_i e
        obtain ⟨v, u, rfl, n1, nv⟩ := dall2 na
        cases n
        cases n1
        cases k.at_ _ _ e with
        | lst h1 h2 => exact ⟨_, _, _, u, rfl, rfl, h1, by rw [h2.length]; exact h.1.1, h.1.2.1, h.1.2.2, kq _ _ (post_put k e (((h2.take _).append (.cons nv .nil)).append (h2.drop _)) .non h.2)⟩
      · exact h.elim
    · exact h.elim
end
end Pd

/-! list(d.items()) -/
namespace Pd
open PySem L2 PyProof.Rows RT LamX PySem.W
section
variable {X : Cx}
def rListIt (X : Cx) : List V → Hp → VK → Prop := fun vs H3 Q => ∃ (Z : Addr → Prop) (w1 : Wd) (a r0 : Addr) (xs : List (Key × V)) (kvs : List (Key × PV)) (Q' : WQ), vs = [.ref r0] ∧ H3 r0 = some (ViewO r0 a) ∧ H3 a = some (.dK xs) ∧ KvOk ⟨fw X, Z⟩ w1 H3 xs kvs ∧ Wk ⟨fw X, Z⟩ w1 H3 ∧ Q' (.lst (kvs.map pairP)) w1 ∧ ∀ v H', Post ⟨fw X, Z⟩ w1 H3 Q' v H' → Q v H'
theorem call_listIt (hc : X.calm = true) : CallR X (.type "list") (rListIt X) := by
  intro pins s3 σ H3 vs us Q I3 r1 ⟨Z, w1, a, r0, xs, kvs, Q', e1, hv3, hd3, hkv, wk3, hQ, kq⟩
  subst e1
  rw [show us = [Value.ref r0] from by cases r1 with | cons q1 q2 => cases q2; cases q1; rfl]
  obtain ⟨hz, hs, vs2, kv2, hm2⟩ := dk_of I3.hok hd3
  obtain ⟨es, ep, hraw, hes, hent⟩ := hm2.raw
  obtain ⟨hview, _, _⟩ := I3.hok r0 _ hv3
  have lxk : xs.length = kvs.length := kv_len hkv
  have lv : vs2.length = kvs.length := by rw [← Paired.length kv2]; exact lxk
  have at1 : ∀ (i : Nat) (k : Key) (d : PV), kvs[i]? = some (k, d) → ∃ (v : V) (u : Value), xs[i]? = some (k, v) ∧ Dn ⟨fw X, Z⟩ w1 H3 v d ∧ vs2[i]? = some (k, u) ∧ RelV v u := by
    intro i k d hi
    obtain ⟨⟨k', v⟩, h1, h2, h3⟩ := paired_at hkv hi
    obtain ⟨⟨k'', u⟩, h4, h5, h6⟩ := paired_at' kv2 h1
    simp only at h2 h3 h5 h6
    subst h2 h5
    exact ⟨v, u, h1, h3, h4, h6⟩
  have ent : ∀ (i : Nat) (hi : i < es.size) (k : Key) (u : Value), vs2[i]? = some (k, u) → (mixKind X.prog X.w).is k es[i].key = true ∧ es[i].val = u := fun i hi k u h => hent i hi k u h
  refine PySem.W.dil_call (A := X.A) (I3.ok.hd hc) hview hraw (by rw [hes, lv, ← lxk]; exact hz) fun h' tk acc cc as kp hL hal hG hacc => ?_
  have nd : as.Nodup := hG.rise.imp fun h => Nat.ne_of_lt h
  have asF : ∀ b ∈ as, H3 b = none ∧ s3.heap.get? b = none := fun b hb => ⟨I3.hok.fresh (Nat.le_of_lt (hG.above b hb)), Heap.get?_none_of_le (Nat.le_of_lt (hG.above b hb))⟩
  let Ls := s3.heap.objs.size
  have hLn : s3.heap.get? Ls = none := Heap.get?_none_of_le (Nat.le_refl _)
  have hLa : Ls ∉ as := fun z => Nat.lt_irrefl _ (hG.above _ z)
  have hL3 : H3 Ls = none := hok_none I3.hok hLn
  have lookA : ∀ b kv, (as.zip xs).lookup b = some kv → b ∈ as := fun b kv h => by
    obtain ⟨i, h1, _⟩ := lookup_zip' h
    exact List.mem_of_getElem? h1
  let vsV : List V := as.map fun b => V.ref b
  let H4 : Hp := fun b => if b = Ls then some (.lst vsV) else match (as.zip xs).lookup b with
    | some kv => some (.tup [kV kv.1, kv.2])
    | none => H3 b
  have h4L : H4 Ls = some (.lst vsV) := if_pos rfl
  have h4p : ∀ b kv, (as.zip xs).lookup b = some kv → H4 b = some (.tup [kV kv.1, kv.2]) := fun b kv h => by
    show (if b = Ls then _ else _) = _
    rw [if_neg (fun z => hLa (by rw [← z]; exact lookA b kv h)), h]
  have h4o : ∀ b, b ≠ Ls → (as.zip xs).lookup b = none → H4 b = H3 b := fun b n h => by
    show (if b = Ls then _ else _) = _
    rw [if_neg n, h]
  have ag : ∀ b u, H3 b = some u → H4 b = some u := fun b u e => by
    have n1 : b ≠ Ls := ne_of_none e hL3
    cases q : (as.zip xs).lookup b with
    | none => rw [h4o b n1 q]; exact e
    | some kv => rw [(asF b (lookA b kv q)).1] at e; cases e
  have vlen : vsV.length ≤ sizeLine := by
    show (as.map fun b => V.ref b).length ≤ sizeLine
    rw [List.length_map, hal, hes, lv, ← lxk]
    exact hz
  have I4 : Inv X pins σ H4 { s3 with heap := h', toks := tk } := by
    refine inv_lay I3 kp ag fun b u e n => ?_
    by_cases hb : b = Ls
    · subst hb
      rw [h4L] at e; cases e
      refine ⟨hLn, vlen, acc.toList, cc, ?_, by simpa using hL⟩
      rw [hacc]
      show Vals (as.map fun b => V.ref b) (as.map Value.ref)
      clear hacc hG hal nd asF hLa lookA h4L h4p h4o ag vlen
      induction as with
      | nil => exact .nil
      | cons x r ih => exact .cons rfl ih
    · cases q : (as.zip xs).lookup b with
      | none => rw [h4o b hb q, n] at e; cases e
      | some kv =>
        rw [h4p b kv q] at e; cases e
        refine ⟨(asF b (lookA b kv q)).2, by show 2 ≤ sizeLine; decide, ?_⟩
        obtain ⟨i, h1, h2⟩ := lookup_zip' q
        obtain ⟨k, v⟩ := kv
        obtain ⟨⟨k', u⟩, h4, h5, h6⟩ := paired_at' kv2 h2
        simp only at h5 h6
        subst h5
        obtain ⟨hi, e6⟩ := hG.pairs i b h1
        obtain ⟨g1, g2⟩ := ent i hi _ u h4
        rw [g2] at e6
        have g1 : keyIs k es[i].key = true := g1
        refine ⟨[es[i].key, u], .cons ?_ (.cons h6 .nil), ⟨_, e6, rfl, _, rfl⟩⟩
        rcases keyIs_shape g1 with ⟨i', t, e1, e2⟩ | ⟨z, t, e1, e2⟩
        · rw [e2, e1]; exact ⟨t, rfl⟩
        · rw [e2, e1]; exact ⟨t, rfl⟩
  have ex4 : Ext w1 H3 w1 H4 := ⟨fun b o h1 h2 => ⟨h1, ag b o h2⟩, fun b kvs h _ => ⟨h, by obtain ⟨u, h2⟩ := (wk3.at_ b _ h).there; rw [h2]; exact ag b u h2⟩⟩
  have wk4 : Wk ⟨fw X, Z⟩ w1 H4 := wk3.ext ex4 fun b hb => by
    cases q : w1 b with
    | none => exact absurd q hb
    | some m =>
      obtain ⟨o, ho⟩ := (wk3.at_ b m q).there
      rw [ho]; exact ag b o ho
  refine ⟨.ref Ls, H4, I4, rfl, kq _ _ ⟨.lst (kvs.map pairP), w1, ex4, wk4, ?_, hQ⟩⟩
  refine .lst ⟨wk3.off hL3, wk3.nz hL3, h4L⟩ ?_
  have each : EachIs (fun (b : Addr) (kv : Key × PV) => Dn ⟨fw X, Z⟩ w1 H4 (.ref b) (pairP kv)) as kvs := by
    refine EachIs.of_zip (by rw [hal, hes, lv]) fun p hp => ?_
    obtain ⟨i, hi⟩ := List.mem_iff_getElem?.mp hp
    rw [List.getElem?_zip_eq_some] at hi
    obtain ⟨h3, h2⟩ := hi
    obtain ⟨b, k, d⟩ := p
    simp only at h3 h2
    obtain ⟨v, u, h7, h8, h9, h10⟩ := at1 i k d h2
    have hb := List.mem_of_getElem? h3
    refine .tup (.inl ⟨wk3.off (asF _ hb).1, wk3.nz (asF _ hb).1, .inl (h4p _ _ (lookup_zip nd h3 h7))⟩) (.cons ?_ (.cons (h8.ext ex4) .nil))
    exact kD_dn k
  have conv : ∀ {bs : List Addr} {ks : List (Key × PV)}, EachIs (fun (b : Addr) (kv : Key × PV) => Dn ⟨fw X, Z⟩ w1 H4 (.ref b) (pairP kv)) bs ks → DnAll ⟨fw X, Z⟩ w1 H4 (bs.map fun b => V.ref b) (ks.map pairP) := by
    intro bs ks q
    induction q with
    | nil => exact .nil
    | cons h _ ih => exact .cons h ih
  exact conv each
def wListIt (te : WE) : WE := fun ρ w Q => te ρ w fun x w1 => onDct x w1 (fun kvs => Q (.lst (kvs.map pairP)) w1) False
theorem de_listIt {e : Expr} {te : WE} {p apos cpos pos : Pos} (hc : X.calm = true) (hg : Gl X "list") (hm : X.mg "list" = none) (he : DE X e te) (hbase : attributeBase e "items" X.env (eval e X.env) = eval e X.env := by rfl) (hline : (apos.endLine == cpos.line) = true := by rfl)
    (hst : starEach [.Call (.Attribute e "items" apos) [] [] cpos] X.env = (false, eval (.Call (.Attribute e "items" apos) [] [] cpos) X.env) :: starEach [] X.env := by rfl) : DE X (.Call (.Name "list" p) [.Call (.Attribute e "items" apos) [] [] cpos] [] pos) (wListIt te) := by
  refine pe_le (pe_callTy (call_listIt hc) hg hm (by rfl) (pa_cons (pe_items he hbase hline) pa_nil) (by decide) (by decide) hst (by rfl)) fun σ H Q ⟨Z, ρ, w, Q', r, h, k⟩ => ?_
  refine up1 r h fun x H1 d w1 e1 r1 n h1 => ?_
  rcases onDct_or h1 with ⟨a, kvs, rfl, hw, q⟩ | h1
  · cases n
    cases r1.wk.at_ _ _ hw with
    | @dct xs _ h6 h7 =>
      refine ⟨a, xs, rfl, h6, fun r0 hr0 => ?_⟩
      have e2 : Ext w1 H1 w1 (upd H1 r0 (ViewO r0 a)) := Ext.new r1.wk hr0
      refine ⟨Z, w1, a, r0, xs, kvs, Q', rfl, upd_same, by rw [upd_ne (ne_of_none h6 hr0)]; exact h6, h7.ext e2, r1.wk.new hr0, q, fun v H' p => k _ _ (post_trans (e1.trans e2) p)⟩
  · exact h1.elim
end
end Pd

/-! defs with a lambda; the end of a law with one table of code objects -/
namespace Pd
open PySem L2
open LamX (TabB)
/-- a def whose code object is known -/
def FxC (K : Frag) (mg : Str → Option Value) (x : Str) (st : Stmt) (ps : List Str) (c : Addr) : Prop := ∃ (f : Addr) (oc : Value) (od an : Option Addr) (osl : Array (Option Value)) (kV doc pm ct : Value),
  K.lookup f = some ⟨oc, od, .func (PySem.W.fnOf x x (defArgs st) (defBody st) (defScope st) .none kV doc pm an (.ref c) ct), osl⟩ ∧ PySem.W.codeIn K (.ref c) x = true ∧ PySem.W.keepIn K (.ref f) = true ∧ mg x = some (.ref f) ∧
  Binds K (PySem.W.fnOf x x (defArgs st) (defBody st) (defScope st) .none kV doc pm an (.ref c) ct) ps []
section
variable {P : Program} {w : World} {K : Frag} {mg : Str → Option Value} {base : Heap}
theorem fxC_mk {h : Heap} {x : Str} {st : Stmt} {ps : List Str} {f c : Addr} {oc : Value} {od an : Option Addr} {osl : Array (Option Value)} {kV doc pm ct : Value} (X : K.In h) (G : h.Ns mainGlobals mg)
    (a : PySem.W.nsIn K mainGlobals x = some (some (.ref f))) (l : K.lookup f = some ⟨oc, od, .func (PySem.W.fnOf x x (defArgs st) (defBody st) (defScope st) .none kV doc pm an (.ref c) ct), osl⟩) (cd : PySem.W.codeIn K (.ref c) x = true) (k : PySem.W.keepIn K (.ref f) = true)
    (hb : ∀ (kV doc pm : Value) (an : Option Addr) (cdv ct : Value) (us : List Value), us.length = ps.length → bindArgs (PySem.W.fnOf x x (defArgs st) (defBody st) (defScope st) .none kV doc pm an cdv ct) ⟨us, []⟩ = pure (ps.zip us)) : FxC K mg x st ps c :=
  ⟨f, oc, od, an, osl, kV, doc, pm, ct, l, cd, k, PySem.W.mg_of X G a, .all (hb kV doc pm an (.ref c) ct)⟩
theorem fd_ofC {x : Str} {st : Stmt} {N ps : List Str} {k : Nat} {p : PSp} {t : WS} {c : Addr} (F : FxC K mg x st ps c) (S : FnScope N ps (defScope st))
    (body : ∀ (f : Addr) (A : Around) (outer : List Env) (s : Shared) (H : Hp) (E : XK), Room k (A.deeper (PyProof.Rows.envOfC x (defScope st) s.heap.objs.size f (.ref c))) →
      DSs (cxOf CX0 P w K mg base N x (defScope st) f (.ref c) A outer s H E).nox (defBody st) t)
    (len : ∀ ds w Q, p ds w Q → ds.length = ps.length) (hp : ∀ ds w' Q, p ds w' Q → t { nx := fun _ w2 => Q .non w2, rt := Q } (begin0 N ds) w') : FD P w K mg base x (k + 1) p := by
  obtain ⟨f, oc, od, an, osl, kV, doc, pm, ct, lk, hcd, hk, hm, hb⟩ := F
  refine ⟨f, _, ps, hm, hk, hb, fn_of lk hcd S (fun vs H Q E h => ?_) fun A outer s H vs Q E hr h => ?_⟩
  · obtain ⟨Z, ds, w, Q', h1, h2, h3, _⟩ := h
    rw [h2.length]
    exact len _ _ _ h3
  · obtain ⟨Z, ds, w, Q', h1, h2, h3, h4⟩ := h
    refine ⟨_, (body f A outer s H E hr).nox, Z, begin0 N ds, w, _, begin_rep h1 h2, hp ds w Q' h3, ⟨fun σ' H' ρ' w' e r q => ?_, fun v H' q => h4 v H' q, fun _ _ _ _ _ _ q => q.elim, fun _ _ _ _ _ _ q => q.elim⟩⟩
    exact h4 _ _ ⟨.non, w', e, r.wk, .non, q⟩
/-- the world at the start: one table -/
def wTab (Pt : Addr) (q : Str) : Wd := fun b => if b = Pt then some (.tab q) else none
def pLawT (Pt : Addr) (q : Str) : PSp := fun ds w Q => ∃ ns : List Int, ds = [.scr (ns.map PV.int)] ∧ ns.length ≤ 63 ∧ w = wTab Pt q ∧ ∀ w', Q (.bl true) w'
theorem law_upT {H : Hp} {a Pt : Addr} {q : Str} {ns : List Int} (hl : ns.length ≤ 63) (hP : H Pt = some (.tbl #[])) (hS : SqL K H a (ns.map V.int)) : upSp ⟨P, w, K⟩ (pLawT Pt q) [.ref a] H (fun v _ => v = .bl true) fun _ _ _ => False := by
  refine ⟨fun _ => False, _, wTab Pt q, fun d _ => d = .bl true, ⟨fun b m h => ?_, fun _ h => False.elim h⟩, .cons (.scr (xs := ns.map V.int) (ds := ns.map PV.int) ?_ (dn_ints ns)) .nil, ⟨ns, rfl, hl, rfl, fun _ => rfl⟩, ?_⟩
  · unfold wTab at h
    split at h
    · rename_i e
      cases h
      rw [e]
      exact .tab hP ⟨True.intro, fun pos cv h => by simp [codeAmong] at h⟩
    · cases h
  · rcases hS with h | h
    · refine .inl ⟨?_, fun z => z, h⟩
      unfold wTab
      rw [if_neg]
      intro z
      rw [z] at h
      rcases h with h | ⟨o, h⟩ <;> (rw [hP] at h; cases h)
    · exact .inr h
  · rintro v H' ⟨d, w', _, _, n, rfl⟩
    cases n
    rfl
theorem law_endT {l : PySem.W.OpenLaw} {k : Nat} {q : Program} {loose : List Str} {XP : (Str → Option Value) → Heap → Prop} {d : DefRec} {K : Params → Frag} {as : List Addr} {e : ∀ P, as = (K P).map (·.1)} {ts : List Addr} {x : Str} {st : Stmt} (c Pt : Addr) (qn : Str)
    (hn : l.most = some 63) (hdf : d.params.defaults = []) (hr : Room k callerA) (hd : d.name = "law") (hb : ∀ (kV doc pm : Value) (an : Option Addr) (cdv ct : Value) (s : Shared) (u : Value), BindsTo s (PySem.W.fnOf "law" "law" (defArgs st) (defBody st) (defScope st) .none kV doc pm an cdv ct) ⟨[u], []⟩ [(x, u)])
    (hc : ∀ P : Params, PySem.W.codeHdIn (K P) c Pt = true) (hPK : ∀ P : Params, (K P).lookup Pt = none) (hPt : Pt ∈ ts)
    (F : ∀ (w : World) (mg : Str → Option Value) (h : Heap), (K w.params).In h → h.Ns mainGlobals mg → (∀ fa : Addr, mg "law" = some (.ref fa) → ∃ fd, Fun (K w.params) "law" "law" st fa fd) ∧
      ∀ base : Heap, (K w.params).In base → base.Ns mainGlobals mg → TabB base mg c Pt → ∀ fa fd, mg "law" = some (.ref fa) → Fun (K w.params) "law" "law" st fa fd → FnOk l.prog w (K w.params) mg base CX0 k fa fd [x] (upSp ⟨l.prog, w, K w.params⟩ (pLawT Pt qn))) :
    PySem.W.WalkO q loose XP (PySem.W.kmHook K as e ts).says l.row.toRowW d [] (fun f vs => PySem.call f vs) := by
  refine LamX.walk_ofTs (n := 63) (k := k) (x := x) (CX := fun _ => CX0) (K := K) hn (by decide) hdf hr (fun w h Y => PySem.W.km_in_of Y) (fun w mg fa h Y hK hG hm => ?_) fun _ _ _ _ _ z => z
  rw [hd] at hm
  obtain ⟨h1, h2⟩ := F w mg h hK hG
  obtain ⟨fd, hf⟩ := h1 fa hm
  refine ⟨fd, [(c, Pt)], upSp ⟨l.prog, w, K w.params⟩ (pLawT Pt qn), fun p hp => ?_, fun p hp => ?_, fun p hp => ?_, ?_, fun H a ns hl _ hH hS => ?_, fun base b1 b2 hT => ?_⟩
  · cases List.mem_singleton.mp hp
    exact PySem.W.km_tabs_of Y Pt hPt
  · cases List.mem_singleton.mp hp
    exact hPK _
  · cases List.mem_singleton.mp hp
    exact PySem.W.codeHd_of_K hK (hc _)
  · obtain ⟨oc, od, kV, doc, pm, an, cdv, ct, osl, rfl, _, _⟩ := hf.ex
    exact hb kV doc pm an cdv ct
  · exact law_upT hl (hH _ (List.mem_singleton.mpr rfl)) hS
  · exact h2 base b1 b2 (hT _ (List.mem_singleton.mpr rfl)) fa fd hm hf
end
end Pd

/-! zip of lists and tuples -/
namespace Pd
open PySem PySem.Spec PyProof.Rows L2
/-- a list (true) or a tuple -/
def SqB (K : Frag) (b : Bool) (H : Hp) (a : Addr) (xs : List V) : Prop := if b = true then SqL K H a xs else SqT K H a xs
def IsB (b : Bool) (h : Heap) (a : Addr) (its : Array Value) : Prop := if b = true then h.IsList a its else h.IsTuple a its
def tyB (b : Bool) : String := if b = true then "list_iterator" else "tuple_iterator"
abbrev obB (b : Bool) (a : Addr) : Obj := { cls := .type (tyB b), data := .fields #[.ref a, .int 0 0] }
def IsBIt (b : Bool) (h : Heap) (it l : Addr) (i : Nat) : Prop := ∃ o, h.get? it = some o ∧ o.cls = .type (tyB b) ∧ o.data = .fields #[.ref l, .int i 0]
theorem IsB.mv {b : Bool} {h h' : Heap} {a : Addr} {its : Array Value} (x : IsB b h a its) (k : ∀ o, h.get? a = some o → h'.get? a = some o) : IsB b h' a its := by
  cases b
  · obtain ⟨o, e, r⟩ := (show h.IsTuple a its from x); exact (show h'.IsTuple a its from ⟨o, k o e, r⟩)
  · obtain ⟨o, e, r⟩ := (show h.IsList a its from x); exact (show h'.IsList a its from ⟨o, k o e, r⟩)
theorem IsB.there {b : Bool} {h : Heap} {a : Addr} {its : Array Value} (x : IsB b h a its) : ∃ o, h.get? a = some o := by
  cases b
  · obtain ⟨o, e, r⟩ := (show h.IsTuple a its from x); exact ⟨o, e⟩
  · obtain ⟨o, e, r⟩ := (show h.IsList a its from x); exact ⟨o, e⟩
section
variable {prog : Program} {w : World} {A : Around} {E : Value → Shared → Prop} {s : Shared}
theorem it_B {b : Bool} {a : Addr} {its : Array Value} {Q : Value → Shared → Prop} (x : IsB b s.heap a its) (q : Q (.ref s.heap.objs.size) { s with heap := s.heap.push (obB b a) }) : wpAny (model prog w) A (pyIter (.ref a)) Q E s := by
  cases b
  · exact wpAny_pyIter_tuple (show s.heap.IsTuple a its from x) q
  · exact wpAny_pyIter_list (show s.heap.IsList a its from x) q
theorem dr_B (b : Bool) (it a : Addr) (its : Array Value) (hne : a ≠ it) (A : Around) (hh : A.handled = none) : Draws prog w A it [it, a] its.size (fun i v => its[i]? = some v) (fun i h => IsBIt b h it a i ∧ IsB b h a its) := by
  cases b
  · exact Draws.tuple hh it a hne its
  · exact Draws.list hh it a hne its
abbrev zgA (h : Heap) (b : Bool) (x : Addr) : Heap := h.push (obB b x)
abbrev zgB (h : Heap) (b c : Bool) (x y : Addr) : Heap := (zgA h b x).push (obB c y)
abbrev zgC (h : Heap) (b c : Bool) (x y : Addr) : Heap := (zgB h b c x y).push { cls := .type "tuple", data := .seq #[.ref h.objs.size, .ref (zgA h b x).objs.size] }
abbrev zgD (h : Heap) (b c : Bool) (x y : Addr) : Heap := (zgC h b c x y).push { cls := .type "tuple", data := .seq #[.none, .none] }
abbrev zgE (h : Heap) (b c : Bool) (x y : Addr) : Heap := (zgD h b c x y).push { cls := .type "zip", data := .fields #[.none, .bool false, .bool false, .ref (zgB h b c x y).objs.size, .ref (zgC h b c x y).objs.size] }
theorem new_zg (b c : Bool) (x y : Addr) (i1 i2 : Array Value) : Meets (Builtin.«zip.__new__» ⟨[.type "zip", .ref x, .ref y], []⟩) (fun _ R s => (IsB b s.heap x i1 ∧ IsB c s.heap y i2) ∧ R (.ok (.ret (.ref (zgD s.heap b c x y).objs.size))) { s with heap := zgE s.heap b c x y }) :=
  .of_wp fun prog w A R s h => by
    obtain ⟨hp, g, d, tk, os⟩ := s
    obtain ⟨⟨hx, hy⟩, h⟩ := h
    have hsub := sub_zip
    have p1 : ∀ (A : Around) (E : Value → Shared → Prop) (Q : Value → Shared → Prop), Q (.ref hp.objs.size) ⟨hp.push (obB b x), g, d, tk, os⟩ → wpAny (model prog w) A (pyIter (.ref x)) Q E ⟨hp, g, d, tk, os⟩ := fun A E Q q => it_B (s := ⟨hp, g, d, tk, os⟩) hx q
    have p2 : ∀ (A : Around) (E : Value → Shared → Prop) (Q : Value → Shared → Prop), Q (.ref (hp.push (obB b x)).objs.size) ⟨(hp.push (obB b x)).push (obB c y), g, d, tk, os⟩ → wpAny (model prog w) A (pyIter (.ref y)) Q E ⟨hp.push (obB b x), g, d, tk, os⟩ := fun A E Q q => it_B (s := ⟨hp.push (obB b x), g, d, tk, os⟩) (hy.mv fun o e => Heap.get?_push_of_some _ e) q
    wp_walk using p1, p2
    exact ⟨_, rfl, h⟩
theorem call_zg {b c : Bool} {x y : Addr} {i1 i2 : Array Value} {Q : Value → Shared → Prop} (hx : IsB b s.heap x i1) (hy : IsB c s.heap y i2)
    (q : ∀ h', IsZip h' (s.heap.objs.size + 4) (s.heap.objs.size + 2) (s.heap.objs.size + 3) .none → IsPair h' (s.heap.objs.size + 2) (.ref s.heap.objs.size) (.ref (s.heap.objs.size + 1)) → IsPair h' (s.heap.objs.size + 3) .none .none →
      IsBIt b h' s.heap.objs.size x 0 → IsBIt c h' (s.heap.objs.size + 1) y 0 → (∀ c o, s.heap.get? c = some o → h'.get? c = some o) → Q (.ref (s.heap.objs.size + 4)) { s with heap := h' }) :
    wpAny (model prog w) A (call (.type "zip") [.ref x, .ref y]) Q E s := by
  refine callType_new F.called_zip (by decide) (F.typeCall_zip_2 _ _) (F.newCall_zip_2 _ _) (fun obj => F.args_object_init_3 obj _ _) F.entry_zip_new (new_zg b c x y i1 i2) ⟨⟨hx, hy⟩, ?_⟩
  have z1 : (zgA s.heap b x).objs.size = s.heap.objs.size + 1 := Heap.size_push ..
  have z2 : (zgB s.heap b c x y).objs.size = s.heap.objs.size + 2 := by rw [Heap.size_push, z1]
  have z3 : (zgC s.heap b c x y).objs.size = s.heap.objs.size + 3 := by rw [Heap.size_push, z2]
  have z4 : (zgD s.heap b c x y).objs.size = s.heap.objs.size + 4 := by rw [Heap.size_push, z3]
  have e5 : (zgE s.heap b c x y).get? (s.heap.objs.size + 4) = some { cls := .type "zip", data := .fields #[.none, .bool false, .bool false, .ref (zgB s.heap b c x y).objs.size, .ref (zgC s.heap b c x y).objs.size] } := by
    rw [← z4]; exact Heap.get?_push_size _ rfl
  have e4 : (zgE s.heap b c x y).get? (s.heap.objs.size + 3) = some { cls := .type "tuple", data := .seq #[.none, .none] } := by
    rw [← z3]; exact Heap.get?_push_of_some _ (Heap.get?_push_size _ rfl)
  have e3 : (zgE s.heap b c x y).get? (s.heap.objs.size + 2) = some { cls := .type "tuple", data := .seq #[.ref s.heap.objs.size, .ref (zgA s.heap b x).objs.size] } := by
    rw [← z2]; exact Heap.get?_push_of_some _ (Heap.get?_push_of_some _ (Heap.get?_push_size _ rfl))
  have e2 : (zgE s.heap b c x y).get? (s.heap.objs.size + 1) = some (obB c y) := by
    rw [← z1]; exact Heap.get?_push_of_some _ (Heap.get?_push_of_some _ (Heap.get?_push_of_some _ (Heap.get?_push_size _ rfl)))
  have e1 : (zgE s.heap b c x y).get? s.heap.objs.size = some (obB b x) :=
    Heap.get?_push_of_some _ (Heap.get?_push_of_some _ (Heap.get?_push_of_some _ (Heap.get?_push_of_some _ (Heap.get?_push_size _ rfl))))
  rw [z2, z3] at e5
  rw [z1] at e3
  rw [z4]
  exact ⟨⟨_, e5, rfl⟩, q _ e5 e3 e4 ⟨_, e1, rfl, rfl⟩ ⟨_, e2, rfl, rfl⟩ fun c o e => Heap.get?_push_of_some _ (Heap.get?_push_of_some _ (Heap.get?_push_of_some _ (Heap.get?_push_of_some _ (Heap.get?_push_of_some _ e))))⟩
end
section
variable {X : Cx} {pins : List (Addr × Obj)} {σ : L2.St} {H : Hp} {s : Shared} {a : Addr} {xs ys : List V}
theorem inv_B {b : Bool} (I : Inv X pins σ H s) (h : SqB X.K b H a xs) : ∃ its : List Value, Vals xs its ∧ IsB b s.heap a its.toArray ∧ xs.length ≤ sizeLine := by
  cases b
  · obtain ⟨its, rv, p, z⟩ := I.tuple (show SqT X.K H a xs from h); exact ⟨its, rv, p, z⟩
  · obtain ⟨its, rv, p, z⟩ := I.list (show SqL X.K H a xs from h); exact ⟨its, rv, p.isList, z⟩
theorem B_inj {b : Bool} (I : Inv X pins σ H s) (h : SqB X.K b H a xs) (h' : SqB X.K b H a ys) : xs = ys := by
  cases b
  · exact I.tuple_inj (show SqT X.K H a xs from h) h'
  · exact I.list_inj (show SqL X.K H a xs from h) h'
end
/-- the items in new pairs -/
def ItzB (K : Frag) (b c : Bool) (x y : Addr) : It :=
  ⟨fun i H => ∃ (xs ys : List V) (u v : V), SqB K b H x xs ∧ SqB K c H y ys ∧ xs[i]? = some u ∧ ys[i]? = some v,
    fun i H r H' => ∃ T u v, r = .ref T ∧ H T = none ∧ H' = upd H T (.tup [u, v]) ∧ (∀ xs, SqB K b H x xs → xs[i]? = some u) ∧ ∀ ys, SqB K c H y ys → ys[i]? = some v,
    fun i H => ∃ xs ys : List V, SqB K b H x xs ∧ SqB K c H y ys ∧ (xs.length = i ∨ (i < xs.length ∧ ys.length = i))⟩
theorem turn_zg {P : Program} {w : World} {K : Frag} {elts : List Expr} {kk : Nat} {tpos : Pos} {b c : Bool} {x y : Addr} {z TI TO i1 i2 : Addr} (Z : ZA z TI TO i1 i2) (nx : x ≠ z ∧ x ≠ TO ∧ x ≠ i1 ∧ x ≠ i2) (ny : y ≠ z ∧ y ≠ TO ∧ y ≠ i1 ∧ y ≠ i2) :
    Turn P w K (.Tuple elts kk tpos) (ItzB K b c x y) [z, TI, TO, i1, i2] z (fun i h => IsZip h z TI TO .none ∧ IsPair h TI (.ref i1) (.ref i2) ∧ (∃ a b, IsPair h TO a b) ∧ IsBIt b h i1 x i ∧ IsBIt c h i2 y i) where
  mem := by simp
  obj := fun i h st c hc => by
    obtain ⟨hz, hI, ⟨a, b, hO⟩, ⟨o1, e1, _, d1⟩, ⟨o2, e2, _, d2⟩⟩ := st
    simp only [List.mem_cons, List.not_mem_nil, or_false] at hc
    rcases hc with rfl | rfl | rfl | rfl | rfl
    · exact ⟨_, hz, fun v q => nomatch q⟩
    · exact ⟨_, hI, fun v q => nomatch q⟩
    · exact ⟨_, hO, fun v q => nomatch q⟩
    · exact ⟨o1, e1, fun v q => by rw [d1] at q; cases q⟩
    · exact ⟨o2, e2, fun v q => by rw [d2] at q; cases q⟩
  keep := fun i h h' st k => by
    obtain ⟨hz, hI, ⟨a, b, hO⟩, ⟨o1, e1, r1⟩, ⟨o2, e2, r2⟩⟩ := st
    exact ⟨k z (by simp) _ hz, k TI (by simp) _ hI, ⟨a, b, k TO (by simp) _ hO⟩, ⟨o1, k i1 (by simp) _ e1, r1⟩, ⟨o2, k i2 (by simp) _ e2, r2⟩⟩
  item := by
    intro X hP hw hK hc i pins s σ H E I hf st hg
    subst hP hw hK
    obtain ⟨hz, hI, ⟨a, b, hO⟩, h1, h2⟩ := st
    obtain ⟨xs, ys, u0, v0, hqx, hqy, hx, hy⟩ := hg
    obtain ⟨its, rv, p, _⟩ := inv_B I hqx
    obtain ⟨its2, rv2, p2, _⟩ := inv_B I hqy
    obtain ⟨u, hu, ru⟩ := rv.get hx
    obtain ⟨u2, hu2, ru2⟩ := rv2.get hy
    have lz : z < s.heap.objs.size := Heap.lt_size hz
    have lI : TI < s.heap.objs.size := Heap.lt_size hI
    have lO : TO < s.heap.objs.size := Heap.lt_size hO
    have la : i1 < s.heap.objs.size := by obtain ⟨_, e, _⟩ := h1; exact Heap.lt_size e
    have lb : i2 < s.heap.objs.size := by obtain ⟨_, e, _⟩ := h2; exact Heap.lt_size e
    have l1 : i < its.toArray.size := by have := (List.getElem?_eq_some_iff.mp hu).1; simpa using this
    have l2 : i < its2.toArray.size := by have := (List.getElem?_eq_some_iff.mp hu2).1; simpa using this
    refine pyn_item Z (f1 := [i1, x]) (f2 := [i2, y]) (fun e he => by simp only [List.mem_cons, List.not_mem_nil, or_false] at he; rcases he with rfl | rfl; exact ⟨Z.a3, Z.a8.symm, Z.a10⟩; exact ⟨nx.1, nx.2.1, nx.2.2.2⟩) (fun e he => by simp only [List.mem_cons, List.not_mem_nil, or_false] at he; rcases he with rfl | rfl; exact ⟨Z.a4, Z.a9.symm, Z.a10.symm⟩; exact ⟨ny.1, ny.2.1, ny.2.2.1⟩)
      (dr_B _ i1 x its.toArray nx.2.2.1) (dr_B _ i2 y its2.toArray ny.2.2.2) (I.ok.hd hc) hz hI hO ⟨h1, p⟩ ⟨h2, p2⟩ l1 l2 fun h' tk v1 v2 q1 q2 y1 y2 y3 y4 y5 y6 => ?_
    have e1 : v1 = u := by have : its[i]? = some v1 := by simpa using q1
                           rw [hu] at this; cases this; rfl
    have e2 : v2 = u2 := by have : its2[i]? = some v2 := by simpa using q2
                            rw [hu2] at this; cases this; rfl
    subst e1 e2
    refine ⟨_, rfl, wpAny_letOwnedTupleGo_zip (s := { s with heap := h', toks := tk }) y1 fun h'' z'' sb => ?_⟩
    have hT2 : h''.get? s.heap.objs.size = some { cls := .type "tuple", data := .seq #[v1, v2] } := (sb.2 _ (Nat.ne_of_gt lz)).trans y5
    have new : ObjOk X.prog X.w (upd H s.heap.objs.size (.tup [u0, v0])) h'' s.heap.objs.size (.tup [u0, v0]) :=
      ⟨by show 2 ≤ sizeLine; decide, [v1, v2], .cons ru (.cons ru2 .nil), ⟨_, hT2, rfl, _, rfl⟩⟩
    have I1 : Inv X pins σ (upd H s.heap.objs.size (.tup [u0, v0])) { s with heap := h'', toks := tk } :=
      I.turnedNew (t' := tk) (ch := [z, TI, TO, i1, i2]) (fun e o hb r => (sb.2 e (fun q' => hb (by simp [q']))).trans (y6 e o (fun q' => hb (by simp [q'])) (fun q' => hb (by simp [q'])) (fun q' => hb (by simp [q'])) (fun q' => hb (by simp [q'])) r)) hf (Nat.le_refl _) new
    have mv : ∀ e o, e ≠ z → h'.get? e = some o → h''.get? e = some o := fun e o ne r => (sb.2 e ne).trans r
    refine ⟨.ref s.heap.objs.size, _, I1, rfl, ⟨_, u0, v0, rfl, I.hok.fresh (Nat.le_refl _), rfl, fun l hl => by rw [B_inj I hl hqx]; exact hx, fun l hl => by rw [B_inj I hl hqy]; exact hy⟩, ⟨z'', mv _ _ Z.a1 (y6 _ _ Z.a1 Z.a5 Z.a6 Z.a7 hI), ⟨_, _, mv _ _ Z.a2 y2⟩, ?_, ?_⟩, fun e he => ?_⟩
    · obtain ⟨⟨o, e, r⟩, _⟩ := y3; exact ⟨o, mv _ _ Z.a3 e, r⟩
    · obtain ⟨⟨o, e, r⟩, _⟩ := y4; exact ⟨o, mv _ _ Z.a4 e, r⟩
    · have hlt : e < s.heap.objs.size := by
        have he' := he
        simp only [List.mem_cons, List.not_mem_nil, or_false] at he'
        rcases he' with rfl | rfl | rfl | rfl | rfl <;> assumption
      rw [upd_ne (Nat.ne_of_lt hlt)]
      exact (hf e he).1
  done := by
    intro X hP hw hK hc i pins s σ H E I hf st hg
    subst hP hw hK
    obtain ⟨hz, hI, ⟨a, b, hO⟩, h1, h2⟩ := st
    obtain ⟨xs, ys, hqx, hqy, hend⟩ := hg
    obtain ⟨its, rv, p, _⟩ := inv_B I hqx
    obtain ⟨its2, rv2, p2, _⟩ := inv_B I hqy
    have l1 := rv.length
    have l2 := rv2.length
    have he : i = its.toArray.size ∨ (i < its.toArray.size ∧ i = its2.toArray.size) := by simp only [List.size_toArray]; omega
    exact pyn_end Z (f1 := [i1, x]) (f2 := [i2, y]) (fun e he => by simp only [List.mem_cons, List.not_mem_nil, or_false] at he; rcases he with rfl | rfl; exact ⟨Z.a3, Z.a8.symm, Z.a10⟩; exact ⟨nx.1, nx.2.1, nx.2.2.2⟩) (fun e he => by simp only [List.mem_cons, List.not_mem_nil, or_false] at he; rcases he with rfl | rfl; exact ⟨Z.a4, Z.a9.symm, Z.a10.symm⟩; exact ⟨ny.1, ny.2.1, ny.2.2.1⟩)
      (dr_B _ i1 x its.toArray nx.2.2.1) (dr_B _ i2 y its2.toArray ny.2.2.2) (I.ok.hd hc) hz hI hO ⟨h1, p⟩ ⟨h2, p2⟩ he fun h' tk hk => ⟨rfl, I.turnedL (t' := tk) (ch := [z, TI, TO, i1, i2]) (fun e o hb r =>
      hk e o (fun q' => hb (by simp [q'])) (fun q' => hb (by simp [q'])) (fun q' => hb (by simp [q'])) (fun q' => hb (by simp [q'])) r) hf⟩
  self := fun A i s Q E st h => wpAny_pyIter_zip st.1 h
def iZg (K : Frag) (ta : TA) : TI := fun σ H R => ta σ H fun vs H1 => ∃ b c x y xs ys, vs = [.ref x, .ref y] ∧ SqB K b H1 x xs ∧ SqB K c H1 y ys ∧ R (ItzB K b c x y) H1
theorem pi_zg {X : Cx} {e e2 : Expr} {ta : TA} {p pos tpos : Pos} {elts : List Expr} {kk : Nat} (hg : Gl X "zip") (hm : X.mg "zip" = none) (ha : PA X [e, e2] ta)
    (hs : starEach [e, e2] X.env = (false, eval e X.env) :: starEach [e2] X.env := by rfl) (hpl : (backTo pos (starEach [e2] X.env)).any (·.1) = false := by rfl) :
    PI X (.Tuple elts kk tpos) (.Call (.Name "zip" p) [e, e2] [] pos) (iZg X.K ta) := by
  refine ⟨fun pins s σ H R I h => ?_⟩
  refine Call_ (ld_blt I hg hm PyProof.Rows.boot_zip (PyProof.Rows.callWith_type1 (thn (ha.run pos pins s σ H _ I h) fun us s1 ⟨vs, H1, I1, r1, q1⟩ => ?_) hs hpl))
  obtain ⟨b, c, x, y, xs, ys, ex, hx, hy, q1⟩ := q1
  subst ex
  cases r1 with
  | cons r rr =>
    cases rr with
    | cons r' rr =>
      cases rr
      cases r
      cases r'
      obtain ⟨i1, rv1, p1, _⟩ := inv_B I1 hx
      obtain ⟨i2, rv2, p2, _⟩ := inv_B I1 hy
      have lx : x < s1.heap.objs.size := by obtain ⟨o, e⟩ := p1.there; exact Heap.lt_size e
      have ly : y < s1.heap.objs.size := by obtain ⟨o, e⟩ := p2.there; exact Heap.lt_size e
      refine call_zg p1 p2 fun h' hz hI hO h1 h2 hk => wpAny_pyIter_zip hz ?_
      have I2 : Inv X pins σ H1 { s1 with heap := h' } := I1.kept (t' := s1.toks) hk
      have Z : ZA (s1.heap.objs.size + 4) (s1.heap.objs.size + 2) (s1.heap.objs.size + 3) s1.heap.objs.size (s1.heap.objs.size + 1) := by
        generalize s1.heap.objs.size = N
        exact ⟨Nat.ne_of_lt (by omega), Nat.ne_of_lt (by omega), Nat.ne_of_lt (by omega), Nat.ne_of_lt (by omega), Nat.ne_of_lt (by omega), Nat.ne_of_gt (by omega), Nat.ne_of_gt (by omega), Nat.ne_of_gt (by omega), Nat.ne_of_gt (by omega), Nat.ne_of_lt (by omega)⟩
      have far : ∀ t : Addr, t < s1.heap.objs.size → t ≠ s1.heap.objs.size + 4 ∧ t ≠ s1.heap.objs.size + 3 ∧ t ≠ s1.heap.objs.size ∧ t ≠ s1.heap.objs.size + 1 := by
        generalize s1.heap.objs.size = N
        intro t ht
        exact ⟨Nat.ne_of_lt (Nat.lt_of_lt_of_le ht (Nat.le_add_right _ _)), Nat.ne_of_lt (Nat.lt_of_lt_of_le ht (Nat.le_add_right _ _)), Nat.ne_of_lt ht, Nat.ne_of_lt (Nat.lt_of_lt_of_le ht (Nat.le_add_right _ _))⟩
      refine ⟨s1.heap.objs.size + 4, [s1.heap.objs.size + 4, s1.heap.objs.size + 2, s1.heap.objs.size + 3, s1.heap.objs.size, s1.heap.objs.size + 1], _, _, H1, rfl, I2, turn_zg Z (far x lx) (far y ly), ⟨hz, hI, ⟨_, _, hO⟩, h1, h2⟩, fun c hc => ?_, q1⟩
      have hle : s1.heap.objs.size ≤ c := by
        simp only [List.mem_cons, List.not_mem_nil, or_false] at hc
        rcases hc with rfl | rfl | rfl | rfl | rfl
        · exact Nat.le_add_right _ _
        · exact Nat.le_add_right _ _
        · exact Nat.le_add_right _ _
        · exact Nat.le_refl _
        · exact Nat.le_add_right _ _
      exact I1.fpOk hle (I1.hok.fresh hle)
/-- pairs of the items -/
def zipP (xs ys : List PV) : List PV := (xs.zip ys).map fun p => .tup [p.1, p.2]
/-- a list or a tuple that stays -/
def seqK : PV → Option (Bool × List PV)
  | .lst ds => some (true, ds)
  | .scr ds => some (true, ds)
  | .tup ds => some (false, ds)
  | .tpl ds => some (false, ds)
  | _ => none
theorem seqK_sq {K : Kz} {w : Wd} {H : Hp} {v : V} {d : PV} {b : Bool} {ds : List PV} (n : Dn K w H v d) (h : seqK d = some (b, ds)) : ∃ a xs, v = .ref a ∧ (∀ w' H', Ext w H w' H' → SqB K.K.F b H' a xs) ∧ DnAll K w H xs ds := by
  cases n with
  | lst hp hn => cases h; exact ⟨_, _, rfl, fun _ _ e => (hp.ext e).sq, hn⟩
  | scr hp hn => cases h; exact ⟨_, _, rfl, fun _ _ e => (hp.ext e).sq, hn⟩
  | tup hp hn => cases h; exact ⟨_, _, rfl, fun _ _ e => (hp.ext e).sq, hn⟩
  | tpl hp hn => cases h; exact ⟨_, _, rfl, fun _ _ e => (hp.ext e).tq.sq, hn⟩
  | _ => cases h
theorem itd_zg {K : Kz} {w : Wd} {H : Hp} {b c : Bool} {x y : Addr} {xs ys : List V} {ds es : List PV} (hx : ∀ w' H', Ext w H w' H' → SqB K.K.F b H' x xs) (hy : ∀ w' H', Ext w H w' H' → SqB K.K.F c H' y ys) (nx : DnAll K w H xs ds) (ny : DnAll K w H ys es) : ItD K (ItzB K.K.F b c x y) w H (zipP ds es) where
  go := fun i w' H' e hi => by
    simp only [zipP, List.length_map, List.length_zip] at hi
    obtain ⟨v, h1, _⟩ := nx.get (List.getElem?_eq_getElem (show i < ds.length by omega))
    obtain ⟨u, h2, _⟩ := ny.get (List.getElem?_eq_getElem (show i < es.length by omega))
    exact ⟨xs, ys, v, u, hx _ _ e, hy _ _ e, h1, h2⟩
  yld := fun i w' H' v H'' Z' e z k hi ⟨T, u1, u2, h1, h2, h3, h4, h5⟩ => by
    subst h1; subst h3
    obtain ⟨d1, p1, p2⟩ := nx.get' (h4 xs (hx _ _ e))
    obtain ⟨d2, p3, p4⟩ := ny.get' (h5 ys (hy _ _ e))
    refine ⟨.tup [d1, d2], ?_, Ext.new k h2, k.new h2, .tup (.inl ⟨k.off h2, k.nz h2, .inl upd_same⟩) (.cons (((p2.hide z).ext e).ext (Ext.new k h2)) (.cons (((p4.hide z).ext e).ext (Ext.new k h2)) .nil))⟩
    simp only [zipP, List.getElem?_map]
    have e3 : (ds.zip es)[i]? = some (d1, d2) := List.getElem?_zip_eq_some.mpr ⟨p1, p3⟩
    rw [e3]
    rfl
  stop := fun w' H' e => by
    refine ⟨xs, ys, hx _ _ e, hy _ _ e, ?_⟩
    rw [nx.length, ny.length]
    simp only [zipP, List.length_map, List.length_zip]
    omega
def rZipG (ds : List PV) (k : List PV → Prop) : Prop := match ds with
  | [x, y] => match seqK x, seqK y with
    | some (_, xs), some (_, ys) => k (zipP xs ys)
    | _, _ => False
  | _ => False
def wZipG (ta : WA) : WI := fun ρ w Q => ta ρ w fun ds w1 => rZipG ds fun xs => Q xs w1
theorem di_zipG {X : Cx} {e e2 : Expr} {ta : WA} {p pos tpos : Pos} {elts : List Expr} {kk : Nat} (hg : Gl X "zip") (hm : X.mg "zip" = none) (ha : DA X [e, e2] ta)
    (hs : starEach [e, e2] X.env = (false, eval e X.env) :: starEach [e2] X.env := by rfl) (hpl : (backTo pos (starEach [e2] X.env)).any (·.1) = false := by rfl) :
    DI X (.Tuple elts kk tpos) (.Call (.Name "zip" p) [e, e2] [] pos) (wZipG ta) :=
  pi_le (pi_zg hg hm ha hs hpl) fun σ H R ⟨Z, ρ, w, Q', r, h, k⟩ => upA1 r h fun vs H1 ds w1 e1 r1 n h1 => by
    unfold rZipG at h1
    split at h1
    · obtain ⟨v, u, rfl, n1, n2⟩ := dall2 n
      split at h1
      · rename_i b xs c ys q1 q2
        obtain ⟨x, xs', rfl, hx, nx⟩ := seqK_sq n1 q1
        obtain ⟨y, ys', rfl, hy, ny⟩ := seqK_sq n2 q2
        exact ⟨_, _, x, y, _, _, rfl, hx _ _ (Ext.refl _ _), hy _ _ (Ext.refl _ _), k _ _ _ _ e1 r1.wk (itd_zg hx hy nx ny) h1⟩
      · exact h1.elim
    · exact h1.elim
section
variable {ρ : Sl} {w : Wd} {TA : WA}
instance s_zipG {N : List PV → Wd → Prop} : Stp (wZipG TA ρ w N) (TA ρ w fun ds w1 => rZipG ds fun xs => N xs w1) := ⟨id⟩
theorem x_zipG {N : List PV → Prop} {x y : PV} {b c : Bool} {xs ys : List PV} (h1 : seqK x = some (b, xs)) (h2 : seqK y = some (c, ys)) (h : N (zipP xs ys)) : rZipG [x, y] N := by
  unfold rZipG; simp only [h1, h2]; exact h
end
end Pd
namespace Pd
open PySem L2
section
variable {ρ : Sl} {w : Wd} {Q : WQ} {ds : List PV}
instance s_lenP : Stp (cLen [.tpl ds] w Q) (Q (.int ds.length) w) := ⟨fun h => h⟩
instance s_sqp {N : List PV → Prop} : Stp (onSeq (.tpl ds) N) (N ds) := ⟨id⟩
instance s_tupP : Stp (cTupP [.lst ds] w Q) (Q (.tpl ds) w) := ⟨id⟩
theorem x_neP {x y : PV} (c1 : x.weak.pl = true) (c2 : y.weak.pl = true) (c3 : x.weak.dep ≤ 64) (h : Q (.bl (!PV.eqb x.weak y.weak)) w) : dNe x y w Q := ⟨⟨c1, c2, c3⟩, h⟩
theorem x_eqP {x y : PV} (c1 : x.weak.pl = true) (c2 : y.weak.pl = true) (c3 : x.weak.dep ≤ 64) (h : Q (.bl (PV.eqb x.weak y.weak)) w) : dEq x y w Q := ⟨⟨c1, c2, c3⟩, h⟩
end
end Pd

/-! further steps -/
namespace Pd
open PySem L2
theorem wdel_wset {w : Wd} {p : Addr} {m : MO} (h : w p = none) (hm : keepL (some m) = none := by rfl) : wdel (wset w p m) p = w := by
  funext b; unfold wdel wset; split
  · rename_i e; rw [e, h]; exact hm
  · rfl
section
variable {ρ : Sl} {w : Wd} {Q : WQ} {s z z1 z2 z3 : Str} {ds : List PV} {i : Int}
theorem beq_str (a b : Str) : (a == b) = decide (a = b) := by rw [str_beq]
theorem dec_comm (a b : Str) : decide (a = b) = decide (b = a) := Bool.eq_iff_iff.mpr (by simp; exact eq_comm)
theorem x_in2 (h : Q (.bl (decide (s = z1) || decide (s = z2))) w) : dIn false (.str s) (.tup [.str z1, .str z2]) w Q := by
  refine ⟨⟨by simp [PV.pl], by simp [PV.pls, PV.pl], by simp [PV.dep]⟩, ?_⟩
  simp only [List.any_cons, List.any_nil, PV.eqb, beq_str, Bool.or_false, dec_comm z1 s, dec_comm z2 s]; exact h
theorem x_in3 (h : Q (.bl (decide (s = z1) || (decide (s = z2) || decide (s = z3)))) w) : dIn false (.str s) (.tup [.str z1, .str z2, .str z3]) w Q := by
  refine ⟨⟨by simp [PV.pl], by simp [PV.pls, PV.pl], by simp [PV.dep]⟩, ?_⟩
  simp only [List.any_cons, List.any_nil, PV.eqb, beq_str, Bool.or_false, dec_comm z1 s, dec_comm z2 s, dec_comm z3 s]; exact h
instance s_in2 : Stp (dIn false (.str s) (.tup [.str z1, .str z2]) w Q) (Q (.bl (decide (s = z1) || decide (s = z2))) w) := ⟨x_in2⟩
instance s_in3 : Stp (dIn false (.str s) (.tup [.str z1, .str z2, .str z3]) w Q) (Q (.bl (decide (s = z1) || (decide (s = z2) || decide (s = z3)))) w) := ⟨x_in3⟩
theorem x_bAnd {a b : Bool} {A B : Prop} (h : (if a = true then (if b = true then A else B) else B)) : if (a && b) = true then A else B := by cases a <;> cases b <;> simpa using h
end
section
variable {w : Wd} {Q : WQ} {s : Str} {i : Int} {ds : List PV} {b : Bool}
theorem x_isSN (h : Q (.bl false) w) : dIs false (.str s) .non w Q := h
instance s_isSN : Stp (dIs false (.str s) .non w Q) (Q (.bl false) w) := ⟨id⟩
instance s_isIN : Stp (dIs false (.int i) .non w Q) (Q (.bl false) w) := ⟨id⟩
instance s_isTN : Stp (dIs false (.tup ds) .non w Q) (Q (.bl false) w) := ⟨id⟩
instance s_isnNN : Stp (dIs true .non .non w Q) (Q (.bl false) w) := ⟨id⟩
instance s_isnSN : Stp (dIs true (.str s) .non w Q) (Q (.bl true) w) := ⟨id⟩
instance s_isnIN : Stp (dIs true (.int i) .non w Q) (Q (.bl true) w) := ⟨id⟩
instance s_isnTN : Stp (dIs true (.tup ds) .non w Q) (Q (.bl true) w) := ⟨id⟩
instance s_neB {c : Bool} : Stp (dNe (.bl b) (.bl c) w Q) (Q (.bl (!(b == c))) w) := ⟨fun h => x_ne (by simp [PV.pl]) (by simp [PV.pl]) (by simp [PV.dep]) (by simpa [PV.eqb] using h)⟩
end
/-! an item of a written row, each by itself -/
theorem x_ixT2 {e0 e1 : PV} {i : Int} {w : Wd} {Q : WQ} (l0 : 0 ≤ i) (l1 : i < 2) (h0 : i = 0 → Q e0 w) (h1 : i = 1 → Q e1 w) : dIx (.tup [e0, e1]) (.int i) w Q := by
  have z : i = 0 ∨ i = 1 := by omega
  rcases z with rfl | rfl
  · exact x_ixT (d := e0) rfl (h0 rfl)
  · exact x_ixT (d := e1) rfl (h1 rfl)
theorem x_ixL2 {e0 e1 : PV} {i : Int} {w : Wd} {Q : WQ} (l0 : 0 ≤ i) (l1 : i < 2) (h0 : i = 0 → Q e0 w) (h1 : i = 1 → Q e1 w) : dIx (.lst [e0, e1]) (.int i) w Q := by
  have z : i = 0 ∨ i = 1 := by omega
  rcases z with rfl | rfl
  · exact x_ixL (d := e0) rfl (h0 rfl)
  · exact x_ixL (d := e1) rfl (h1 rfl)
theorem x_ixT3 {e0 e1 e2 : PV} {i : Int} {w : Wd} {Q : WQ} (l0 : 0 ≤ i) (l1 : i < 3) (h0 : i = 0 → Q e0 w) (h1 : i = 1 → Q e1 w) (h2 : i = 2 → Q e2 w) : dIx (.tup [e0, e1, e2]) (.int i) w Q := by
  have z : i = 0 ∨ i = 1 ∨ i = 2 := by omega
  rcases z with rfl | rfl | rfl
  · exact x_ixT (d := e0) rfl (h0 rfl)
  · exact x_ixT (d := e1) rfl (h1 rfl)
  · exact x_ixT (d := e2) rfl (h2 rfl)
theorem x_ixL3 {e0 e1 e2 : PV} {i : Int} {w : Wd} {Q : WQ} (l0 : 0 ≤ i) (l1 : i < 3) (h0 : i = 0 → Q e0 w) (h1 : i = 1 → Q e1 w) (h2 : i = 2 → Q e2 w) : dIx (.lst [e0, e1, e2]) (.int i) w Q := by
  have z : i = 0 ∨ i = 1 ∨ i = 2 := by omega
  rcases z with rfl | rfl | rfl
  · exact x_ixL (d := e0) rfl (h0 rfl)
  · exact x_ixL (d := e1) rfl (h1 rfl)
  · exact x_ixL (d := e2) rfl (h2 rfl)
theorem x_ixT4 {e0 e1 e2 e3 : PV} {i : Int} {w : Wd} {Q : WQ} (l0 : 0 ≤ i) (l1 : i < 4) (h0 : i = 0 → Q e0 w) (h1 : i = 1 → Q e1 w) (h2 : i = 2 → Q e2 w) (h3 : i = 3 → Q e3 w) : dIx (.tup [e0, e1, e2, e3]) (.int i) w Q := by
  have z : i = 0 ∨ i = 1 ∨ i = 2 ∨ i = 3 := by omega
  rcases z with rfl | rfl | rfl | rfl
  · exact x_ixT (d := e0) rfl (h0 rfl)
  · exact x_ixT (d := e1) rfl (h1 rfl)
  · exact x_ixT (d := e2) rfl (h2 rfl)
  · exact x_ixT (d := e3) rfl (h3 rfl)
theorem x_ixL4 {e0 e1 e2 e3 : PV} {i : Int} {w : Wd} {Q : WQ} (l0 : 0 ≤ i) (l1 : i < 4) (h0 : i = 0 → Q e0 w) (h1 : i = 1 → Q e1 w) (h2 : i = 2 → Q e2 w) (h3 : i = 3 → Q e3 w) : dIx (.lst [e0, e1, e2, e3]) (.int i) w Q := by
  have z : i = 0 ∨ i = 1 ∨ i = 2 ∨ i = 3 := by omega
  rcases z with rfl | rfl | rfl | rfl
  · exact x_ixL (d := e0) rfl (h0 rfl)
  · exact x_ixL (d := e1) rfl (h1 rfl)
  · exact x_ixL (d := e2) rfl (h2 rfl)
  · exact x_ixL (d := e3) rfl (h3 rfl)
theorem x_ixT5 {e0 e1 e2 e3 e4 : PV} {i : Int} {w : Wd} {Q : WQ} (l0 : 0 ≤ i) (l1 : i < 5) (h0 : i = 0 → Q e0 w) (h1 : i = 1 → Q e1 w) (h2 : i = 2 → Q e2 w) (h3 : i = 3 → Q e3 w) (h4 : i = 4 → Q e4 w) : dIx (.tup [e0, e1, e2, e3, e4]) (.int i) w Q := by
  have z : i = 0 ∨ i = 1 ∨ i = 2 ∨ i = 3 ∨ i = 4 := by omega
  rcases z with rfl | rfl | rfl | rfl | rfl
  · exact x_ixT (d := e0) rfl (h0 rfl)
  · exact x_ixT (d := e1) rfl (h1 rfl)
  · exact x_ixT (d := e2) rfl (h2 rfl)
  · exact x_ixT (d := e3) rfl (h3 rfl)
  · exact x_ixT (d := e4) rfl (h4 rfl)
theorem x_ixL5 {e0 e1 e2 e3 e4 : PV} {i : Int} {w : Wd} {Q : WQ} (l0 : 0 ≤ i) (l1 : i < 5) (h0 : i = 0 → Q e0 w) (h1 : i = 1 → Q e1 w) (h2 : i = 2 → Q e2 w) (h3 : i = 3 → Q e3 w) (h4 : i = 4 → Q e4 w) : dIx (.lst [e0, e1, e2, e3, e4]) (.int i) w Q := by
  have z : i = 0 ∨ i = 1 ∨ i = 2 ∨ i = 3 ∨ i = 4 := by omega
  rcases z with rfl | rfl | rfl | rfl | rfl
  · exact x_ixL (d := e0) rfl (h0 rfl)
  · exact x_ixL (d := e1) rfl (h1 rfl)
  · exact x_ixL (d := e2) rfl (h2 rfl)
  · exact x_ixL (d := e3) rfl (h3 rfl)
  · exact x_ixL (d := e4) rfl (h4 rfl)
theorem x_ixT6 {e0 e1 e2 e3 e4 e5 : PV} {i : Int} {w : Wd} {Q : WQ} (l0 : 0 ≤ i) (l1 : i < 6) (h0 : i = 0 → Q e0 w) (h1 : i = 1 → Q e1 w) (h2 : i = 2 → Q e2 w) (h3 : i = 3 → Q e3 w) (h4 : i = 4 → Q e4 w) (h5 : i = 5 → Q e5 w) : dIx (.tup [e0, e1, e2, e3, e4, e5]) (.int i) w Q := by
  have z : i = 0 ∨ i = 1 ∨ i = 2 ∨ i = 3 ∨ i = 4 ∨ i = 5 := by omega
  rcases z with rfl | rfl | rfl | rfl | rfl | rfl
  · exact x_ixT (d := e0) rfl (h0 rfl)
  · exact x_ixT (d := e1) rfl (h1 rfl)
  · exact x_ixT (d := e2) rfl (h2 rfl)
  · exact x_ixT (d := e3) rfl (h3 rfl)
  · exact x_ixT (d := e4) rfl (h4 rfl)
  · exact x_ixT (d := e5) rfl (h5 rfl)
theorem x_ixL6 {e0 e1 e2 e3 e4 e5 : PV} {i : Int} {w : Wd} {Q : WQ} (l0 : 0 ≤ i) (l1 : i < 6) (h0 : i = 0 → Q e0 w) (h1 : i = 1 → Q e1 w) (h2 : i = 2 → Q e2 w) (h3 : i = 3 → Q e3 w) (h4 : i = 4 → Q e4 w) (h5 : i = 5 → Q e5 w) : dIx (.lst [e0, e1, e2, e3, e4, e5]) (.int i) w Q := by
  have z : i = 0 ∨ i = 1 ∨ i = 2 ∨ i = 3 ∨ i = 4 ∨ i = 5 := by omega
  rcases z with rfl | rfl | rfl | rfl | rfl | rfl
  · exact x_ixL (d := e0) rfl (h0 rfl)
  · exact x_ixL (d := e1) rfl (h1 rfl)
  · exact x_ixL (d := e2) rfl (h2 rfl)
  · exact x_ixL (d := e3) rfl (h3 rfl)
  · exact x_ixL (d := e4) rfl (h4 rfl)
  · exact x_ixL (d := e5) rfl (h5 rfl)
theorem x_ixT7 {e0 e1 e2 e3 e4 e5 e6 : PV} {i : Int} {w : Wd} {Q : WQ} (l0 : 0 ≤ i) (l1 : i < 7) (h0 : i = 0 → Q e0 w) (h1 : i = 1 → Q e1 w) (h2 : i = 2 → Q e2 w) (h3 : i = 3 → Q e3 w) (h4 : i = 4 → Q e4 w) (h5 : i = 5 → Q e5 w) (h6 : i = 6 → Q e6 w) : dIx (.tup [e0, e1, e2, e3, e4, e5, e6]) (.int i) w Q := by
  have z : i = 0 ∨ i = 1 ∨ i = 2 ∨ i = 3 ∨ i = 4 ∨ i = 5 ∨ i = 6 := by omega
  rcases z with rfl | rfl | rfl | rfl | rfl | rfl | rfl
  · exact x_ixT (d := e0) rfl (h0 rfl)
  · exact x_ixT (d := e1) rfl (h1 rfl)
  · exact x_ixT (d := e2) rfl (h2 rfl)
  · exact x_ixT (d := e3) rfl (h3 rfl)
  · exact x_ixT (d := e4) rfl (h4 rfl)
  · exact x_ixT (d := e5) rfl (h5 rfl)
  · exact x_ixT (d := e6) rfl (h6 rfl)
theorem x_ixL7 {e0 e1 e2 e3 e4 e5 e6 : PV} {i : Int} {w : Wd} {Q : WQ} (l0 : 0 ≤ i) (l1 : i < 7) (h0 : i = 0 → Q e0 w) (h1 : i = 1 → Q e1 w) (h2 : i = 2 → Q e2 w) (h3 : i = 3 → Q e3 w) (h4 : i = 4 → Q e4 w) (h5 : i = 5 → Q e5 w) (h6 : i = 6 → Q e6 w) : dIx (.lst [e0, e1, e2, e3, e4, e5, e6]) (.int i) w Q := by
  have z : i = 0 ∨ i = 1 ∨ i = 2 ∨ i = 3 ∨ i = 4 ∨ i = 5 ∨ i = 6 := by omega
  rcases z with rfl | rfl | rfl | rfl | rfl | rfl | rfl
  · exact x_ixL (d := e0) rfl (h0 rfl)
  · exact x_ixL (d := e1) rfl (h1 rfl)
  · exact x_ixL (d := e2) rfl (h2 rfl)
  · exact x_ixL (d := e3) rfl (h3 rfl)
  · exact x_ixL (d := e4) rfl (h4 rfl)
  · exact x_ixL (d := e5) rfl (h5 rfl)
  · exact x_ixL (d := e6) rfl (h6 rfl)
theorem x_ixT8 {e0 e1 e2 e3 e4 e5 e6 e7 : PV} {i : Int} {w : Wd} {Q : WQ} (l0 : 0 ≤ i) (l1 : i < 8) (h0 : i = 0 → Q e0 w) (h1 : i = 1 → Q e1 w) (h2 : i = 2 → Q e2 w) (h3 : i = 3 → Q e3 w) (h4 : i = 4 → Q e4 w) (h5 : i = 5 → Q e5 w) (h6 : i = 6 → Q e6 w) (h7 : i = 7 → Q e7 w) : dIx (.tup [e0, e1, e2, e3, e4, e5, e6, e7]) (.int i) w Q := by
  have z : i = 0 ∨ i = 1 ∨ i = 2 ∨ i = 3 ∨ i = 4 ∨ i = 5 ∨ i = 6 ∨ i = 7 := by omega
  rcases z with rfl | rfl | rfl | rfl | rfl | rfl | rfl | rfl
  · exact x_ixT (d := e0) rfl (h0 rfl)
  · exact x_ixT (d := e1) rfl (h1 rfl)
  · exact x_ixT (d := e2) rfl (h2 rfl)
  · exact x_ixT (d := e3) rfl (h3 rfl)
  · exact x_ixT (d := e4) rfl (h4 rfl)
  · exact x_ixT (d := e5) rfl (h5 rfl)
  · exact x_ixT (d := e6) rfl (h6 rfl)
  · exact x_ixT (d := e7) rfl (h7 rfl)
theorem x_ixL8 {e0 e1 e2 e3 e4 e5 e6 e7 : PV} {i : Int} {w : Wd} {Q : WQ} (l0 : 0 ≤ i) (l1 : i < 8) (h0 : i = 0 → Q e0 w) (h1 : i = 1 → Q e1 w) (h2 : i = 2 → Q e2 w) (h3 : i = 3 → Q e3 w) (h4 : i = 4 → Q e4 w) (h5 : i = 5 → Q e5 w) (h6 : i = 6 → Q e6 w) (h7 : i = 7 → Q e7 w) : dIx (.lst [e0, e1, e2, e3, e4, e5, e6, e7]) (.int i) w Q := by
  have z : i = 0 ∨ i = 1 ∨ i = 2 ∨ i = 3 ∨ i = 4 ∨ i = 5 ∨ i = 6 ∨ i = 7 := by omega
  rcases z with rfl | rfl | rfl | rfl | rfl | rfl | rfl | rfl
  · exact x_ixL (d := e0) rfl (h0 rfl)
  · exact x_ixL (d := e1) rfl (h1 rfl)
  · exact x_ixL (d := e2) rfl (h2 rfl)
  · exact x_ixL (d := e3) rfl (h3 rfl)
  · exact x_ixL (d := e4) rfl (h4 rfl)
  · exact x_ixL (d := e5) rfl (h5 rfl)
  · exact x_ixL (d := e6) rfl (h6 rfl)
  · exact x_ixL (d := e7) rfl (h7 rfl)
theorem x_ixT9 {e0 e1 e2 e3 e4 e5 e6 e7 e8 : PV} {i : Int} {w : Wd} {Q : WQ} (l0 : 0 ≤ i) (l1 : i < 9) (h0 : i = 0 → Q e0 w) (h1 : i = 1 → Q e1 w) (h2 : i = 2 → Q e2 w) (h3 : i = 3 → Q e3 w) (h4 : i = 4 → Q e4 w) (h5 : i = 5 → Q e5 w) (h6 : i = 6 → Q e6 w) (h7 : i = 7 → Q e7 w) (h8 : i = 8 → Q e8 w) : dIx (.tup [e0, e1, e2, e3, e4, e5, e6, e7, e8]) (.int i) w Q := by
  have z : i = 0 ∨ i = 1 ∨ i = 2 ∨ i = 3 ∨ i = 4 ∨ i = 5 ∨ i = 6 ∨ i = 7 ∨ i = 8 := by omega
  rcases z with rfl | rfl | rfl | rfl | rfl | rfl | rfl | rfl | rfl
  · exact x_ixT (d := e0) rfl (h0 rfl)
  · exact x_ixT (d := e1) rfl (h1 rfl)
  · exact x_ixT (d := e2) rfl (h2 rfl)
  · exact x_ixT (d := e3) rfl (h3 rfl)
  · exact x_ixT (d := e4) rfl (h4 rfl)
  · exact x_ixT (d := e5) rfl (h5 rfl)
  · exact x_ixT (d := e6) rfl (h6 rfl)
  · exact x_ixT (d := e7) rfl (h7 rfl)
  · exact x_ixT (d := e8) rfl (h8 rfl)
theorem x_ixL9 {e0 e1 e2 e3 e4 e5 e6 e7 e8 : PV} {i : Int} {w : Wd} {Q : WQ} (l0 : 0 ≤ i) (l1 : i < 9) (h0 : i = 0 → Q e0 w) (h1 : i = 1 → Q e1 w) (h2 : i = 2 → Q e2 w) (h3 : i = 3 → Q e3 w) (h4 : i = 4 → Q e4 w) (h5 : i = 5 → Q e5 w) (h6 : i = 6 → Q e6 w) (h7 : i = 7 → Q e7 w) (h8 : i = 8 → Q e8 w) : dIx (.lst [e0, e1, e2, e3, e4, e5, e6, e7, e8]) (.int i) w Q := by
  have z : i = 0 ∨ i = 1 ∨ i = 2 ∨ i = 3 ∨ i = 4 ∨ i = 5 ∨ i = 6 ∨ i = 7 ∨ i = 8 := by omega
  rcases z with rfl | rfl | rfl | rfl | rfl | rfl | rfl | rfl | rfl
  · exact x_ixL (d := e0) rfl (h0 rfl)
  · exact x_ixL (d := e1) rfl (h1 rfl)
  · exact x_ixL (d := e2) rfl (h2 rfl)
  · exact x_ixL (d := e3) rfl (h3 rfl)
  · exact x_ixL (d := e4) rfl (h4 rfl)
  · exact x_ixL (d := e5) rfl (h5 rfl)
  · exact x_ixL (d := e6) rfl (h6 rfl)
  · exact x_ixL (d := e7) rfl (h7 rfl)
  · exact x_ixL (d := e8) rfl (h8 rfl)
end Pd

/-! list.index, list.count, str(i), upper, == of dicts, sorted(d) -/
namespace Pd
open PySem L2 PyProof.Rows
theorem rdOf_get {h : Heap} : ∀ {us : List Value} {ds : List PV} {j : Nat} {u : Value}, RvAll h us ds → us[j]? = some u → ds[j]? = some (rdOf h u)
  | _, _, j, u, .nil, e => by simp at e
  | _, _, 0, u, .cons r _, e => by simp at e; subst e; rw [rdOf_eq r]; rfl
  | _, _, j + 1, u, .cons _ rr, e => by simpa using rdOf_get (j := j) rr (by simpa using e)
theorem rdOf_countP {h : Heap} {f : PV → Bool} : ∀ {us : List Value} {ds : List PV}, RvAll h us ds → us.countP (fun u => f (rdOf h u)) = ds.countP f
  | _, _, .nil => rfl
  | _, _, .cons r rr => by rw [List.countP_cons, List.countP_cons, rdOf_eq r, rdOf_countP rr]
section
variable {X : Cx} {K : Fw}
def rIdxP (K : Fw) : V → List V → Hp → VK → Prop := fun x xs H Q => ∃ Z w d ys es p y j, x = .ref p ∧ xs = [y] ∧ Dn ⟨K, Z⟩ w H y d ∧ SqL K.F H p ys ∧ DnAll ⟨K, Z⟩ w H ys es ∧ d.pl = true ∧ PV.pls es = true ∧ d.dep ≤ 63 ∧
  (∃ z, es[j]? = some z ∧ PV.eqb z d = true) ∧ (∀ m z, m < j → es[m]? = some z → PV.eqb z d = false) ∧ Q (.int (j : Nat)) H
theorem mt_idxP (hu : X.A.units + 64 < cLine) : MtR X "list.index" (rIdxP (fw X)) := by
  intro pins s σ H x xs v us Q I rx rxs h
  obtain ⟨Z, w, d, ys, es, p, y, j, rfl, rfl, hd, hq, hn, p1, p2, hz, ⟨z, hzj, hze⟩, hno, q⟩ := h
  cases rx
  obtain ⟨u, rfl, ru⟩ := rxs.one
  have rd := hd.rv I ru p1
  obtain ⟨its, r, ⟨⟨cls, dd, data, sl⟩, n, ho, hc, hdn, hdt⟩, hlen⟩ := I.list hq
  simp only at hc hdt
  subst hc hdt
  have ra := hn.rv I r p2
  have hsl := sizeLine_eq
  have hjl : j < es.length := (List.getElem?_eq_some_iff.mp hzj).1
  have hle := ra.length
  have hvl := r.length
  have hj : j < its.toArray.size := by rw [List.size_toArray]; omega
  have at_ : ∀ m (hm : m < its.toArray.size), es[m]? = some (rdOf s.heap its.toArray[m]) := fun m hm => rdOf_get ra (by
    have hm' : m < its.length := by simpa using hm
    rw [List.getElem?_eq_getElem hm']; simp)
  refine call_meets PySem.F.slot_list_index ⟨_, ho, rfl⟩ PySem.F.entry_list_index (PySem.F.args_list_index_2 _ _)
    (SeqAt.list_indexAt p its.toArray n dd sl u (fun u => PV.eqb (rdOf s.heap u) d) j hj (by rw [hsl] at hlen; omega) ?_ ?_) ⟨ho, in_items hu ra rd p1 p2 hz, ?_⟩
  · have := at_ j hj
    rw [hzj] at this
    have e : rdOf s.heap its.toArray[j] = z := (Option.some.inj this).symm
    show PV.eqb (rdOf s.heap its.toArray[j]) d = true
    rw [e]; exact hze
  · intro m hm hmj
    exact hno m _ hmj (at_ m hm)
  · exact ⟨.int (j : Nat), H, I.tok _, ⟨_, rfl⟩, q⟩
def rCntP (K : Fw) : V → List V → Hp → VK → Prop := fun x xs H Q => ∃ Z w d ys es p y, x = .ref p ∧ xs = [y] ∧ Dn ⟨K, Z⟩ w H y d ∧ SqL K.F H p ys ∧ DnAll ⟨K, Z⟩ w H ys es ∧ d.pl = true ∧ PV.pls es = true ∧ d.dep ≤ 63 ∧
  Q (.int (es.countP (fun e => PV.eqb e d) : Nat)) H
theorem mt_cntP (hu : X.A.units + 64 < cLine) : MtR X "list.count" (rCntP (fw X)) := by
  intro pins s σ H x xs v us Q I rx rxs h
  obtain ⟨Z, w, d, ys, es, p, y, rfl, rfl, hd, hq, hn, p1, p2, hz, q⟩ := h
  cases rx
  obtain ⟨u, rfl, ru⟩ := rxs.one
  have rd := hd.rv I ru p1
  obtain ⟨its, r, ⟨⟨cls, dd, data, sl⟩, n, ho, hc, hdn, hdt⟩, hlen⟩ := I.list hq
  simp only at hc hdt
  subst hc hdt
  have ra := hn.rv I r p2
  refine call_meets PySem.F.slot_list_count ⟨_, ho, rfl⟩ PySem.F.entry_list_count (PySem.F.args_list_count_2 _ _)
    (SeqAt.list_countAt p its.toArray n dd sl u (fun u => PV.eqb (rdOf s.heap u) d)) ⟨ho, in_items hu ra rd p1 p2 hz, ?_⟩
  have ec : its.toArray.toList.countP (fun u => PV.eqb (rdOf s.heap u) d) = es.countP (fun e => PV.eqb e d) := rdOf_countP (f := fun e => PV.eqb e d) ra
  refine ⟨.int (es.countP (fun e => PV.eqb e d) : Nat), H, I.tok _, ⟨s.toks, ?_⟩, q⟩
  show Value.int ((its.toArray.toList.countP (fun u => PV.eqb (rdOf s.heap u) d) : Nat) : Int) s.toks = Value.int ((es.countP (fun e => PV.eqb e d) : Nat) : Int) s.toks
  rw [ec]
/-- any list -/
def isLs (d : PV) (w : Wd) : Prop := ∃ es, vw w d = .lst es
def mIndex : PV → List PV → Wd → WQ → Prop := fun d ys w Q => match vw w d, ys with
  | .lst es, [y] => (y.pl = true ∧ PV.pls es = true ∧ y.dep ≤ 63) ∧ ∃ j : Nat, (∃ z, es[j]? = some z ∧ PV.eqb z y = true) ∧ (∀ m z, m < j → es[m]? = some z → PV.eqb z y = false) ∧ Q (.int (j : Nat)) w
  | _, _ => False
theorem isLs_ty {Z : Addr → Prop} {w : Wd} {H : Hp} {x : V} {d : PV} (k : Wk ⟨K, Z⟩ w H) (n : Dn ⟨K, Z⟩ w H x d) (h : isLs d w) : tyV K.F "list" x H := by
  obtain ⟨es, e⟩ := h
  obtain ⟨p, ys, rfl, hh, hn⟩ := vwL k n e
  exact .inl ⟨rfl, _, SqL.of hh⟩
theorem me_index (hu : X.A.units + 64 < cLine) : MeD X "index" isLs mIndex := by
  refine ⟨"list", "list.index", _, PySem.F.plainAttrs_list, PySem.F.slot_list_index, PySem.F.type_list_index, mt_idxP hu, fun Z w H x d k n h => isLs_ty k n h, fun Z x xs H d ds w Q' Q k n na h kq => ?_⟩
  unfold mIndex at h
  split at h
  · rename_i e
    obtain ⟨p, ys, rfl, hh, hn⟩ := vwL k n e
    obtain ⟨v, rfl, nv⟩ := dall1 na
    obtain ⟨⟨h1, h2, h3⟩, j, hj, hno, q⟩ := h
    exact ⟨Z, w, _, ys, _, p, v, j, rfl, rfl, nv, SqL.of hh, hn, h1, h2, h3, hj, hno, kq _ _ (post_same k (.int _) q)⟩
  · exact h.elim
def mCount : PV → List PV → Wd → WQ → Prop := fun d ys w Q => match vw w d, ys with
  | .lst es, [y] => (y.pl = true ∧ PV.pls es = true ∧ y.dep ≤ 63) ∧ Q (.int (es.countP (fun e => PV.eqb e y) : Nat)) w
  | _, _ => False
theorem me_count (hu : X.A.units + 64 < cLine) : MeD X "count" isLs mCount := by
  refine ⟨"list", "list.count", _, PySem.F.plainAttrs_list, PySem.F.slot_list_count, PySem.F.type_list_count, mt_cntP hu, fun Z w H x d k n h => isLs_ty k n h, fun Z x xs H d ds w Q' Q k n na h kq => ?_⟩
  unfold mCount at h
  split at h
  · rename_i e
    obtain ⟨p, ys, rfl, hh, hn⟩ := vwL k n e
    obtain ⟨v, rfl, nv⟩ := dall1 na
    obtain ⟨⟨h1, h2, h3⟩, q⟩ := h
    exact ⟨Z, w, _, ys, _, p, v, rfl, rfl, nv, SqL.of hh, hn, h1, h2, h3, kq _ _ (post_same k (.int _) q)⟩
  · exact h.elim
/-! texts -/
def isSt (d : PV) (_ : Wd) : Prop := ∃ z, d = .str z
def mUpper : PV → List PV → Wd → WQ → Prop := fun d ys w Q => match d, ys with
  | .str z, [] => z.length ≤ 1000 ∧ Q (.str (Txt.upper z)) w
  | _, _ => False
theorem me_upper : MeD X "upper" isSt mUpper := by
  refine ⟨"str", "str.upper", _, PySem.F.plainAttrs_str, PySem.F.slot_str_upper, PySem.F.type_str_upper, mt_upper, fun Z w H x d k n h => ?_, fun Z x xs H d ds w Q' Q k n na h kq => ?_⟩
  · obtain ⟨z, rfl⟩ := h
    cases n; rfl
  · unfold mUpper at h
    split at h
    · cases n; cases na
      exact ⟨_, rfl, rfl, by have := h.1; omega, kq _ _ (post_same k (.str _) h.2)⟩
    · exact h.elim
def cStr : RcD := fun ds w Q => match ds with
  | [.int i] => i.natAbs.log2 < 1920 ∧ Q (.str (toString i)) w
  | [.str z] => Q (.str z) w
  | _ => False
theorem ca_str : CaD X (.type "str") cStr := by
  refine ⟨_, call_str_int.or SkE.call_str_str, fun Z xs H ds w Q' Q k n h kq => ?_⟩
  unfold cStr at h
  split at h
  · obtain ⟨v, rfl, n1⟩ := dall1 n
    cases n1
    exact .inl ⟨_, rfl, h.1, kq _ _ (post_same k (.str _) h.2)⟩
  · obtain ⟨v, rfl, n1⟩ := dall1 n
    cases n1
    exact .inr ⟨_, rfl, kq _ _ (post_same k (.str _) h)⟩
  · exact h.elim
/-! sorted(d): a dict's names -/
def cSortD : RcD := fun ds w Q => match ds with
  | [x] => onDct x w (fun kvs => ∃ ks : List Str, kvs.map (·.1) = ks.map Sum.inr ∧ ks.length < 64 ∧ ∀ ys : List Str, ys.Perm ks → sortedS ys = true → Q (.lst (ys.map PV.str)) w) (cSorted ds w Q)
  | _ => False
theorem ca_sortD (hc : X.calm = true) : CaD X (.builtin "sorted") cSortD := by
  obtain ⟨r, h1, h2⟩ := (ca_sorted (X := X)).ex
  refine ⟨_, h1.or (call_sortedD hc), fun Z xs H ds w Q' Q k n h kq => ?_⟩
  unfold cSortD at h
  split at h
  · rcases onDct_or h with ⟨a, kvs, rfl, hw, ks, hks, hl, q⟩ | h
    · obtain ⟨v, rfl, n1⟩ := dall1 n
      cases n1
      cases k.at_ _ _ hw with
      | @dct xs _ b1 b2 =>
        refine .inr ⟨a, xs, ks, rfl, .inl b1, ?_, hl, fun ys p hp hs hn => kq _ _ (post_lst k hn (strs_dn ys) (q ys hp hs))⟩
        rw [← hks]
        clear hks hl q b1 hw
        induction b2 with
        | nil => rfl
        | cons hx _ ih => rw [List.map_cons, List.map_cons, ih, hx.1]
    · exact .inl (h2 Z xs H _ w Q' Q k n h kq)
  · exact h.elim
/-! len(d) -/
theorem call_lenDk : CallR X (.builtin "len") (fun xs H Q => ∃ (a : Addr) (kvs : List (Key × V)), xs = [.ref a] ∧ Rd H a (.dK kvs) ∧ Q (.int kvs.length) H) := by
  intro pins s σ H xs us Q I r ⟨a, kvs, ex, hd, q⟩
  subst ex
  obtain ⟨u, eu, rx⟩ := vals1 r
  subst eu
  cases rx
  exact d_len I hd fun t s' I' => ⟨.int _, H, I', ⟨t, rfl⟩, q⟩
def cLenD : RcD := fun ds w Q => match ds with
  | [x] => onDct x w (fun kvs => Q (.int kvs.length) w) (cLen ds w Q)
  | _ => False
theorem kv_length {K : Kz} {w : Wd} {H : Hp} {xs : List (Key × V)} {ds : List (Key × PV)} (h : KvOk K w H xs ds) : xs.length = ds.length := Paired.length h
theorem ca_lenD : CaD X (.builtin "len") cLenD := by
  obtain ⟨r, h1, h2⟩ := (ca_len (X := X)).ex
  refine ⟨_, h1.or call_lenDk, fun Z xs H ds w Q' Q k n h kq => ?_⟩
  unfold cLenD at h
  split at h
  · rcases onDct_or h with ⟨a, kvs, rfl, hw, q⟩ | h
    · obtain ⟨v, rfl, n1⟩ := dall1 n
      cases n1
      cases k.at_ _ _ hw with
      | @dct xs _ b1 b2 => exact .inr ⟨a, xs, rfl, .inl b1, by rw [kv_length b2]; exact kq _ _ (post_same k (.int _) q)⟩
    · exact .inl (h2 Z xs H _ w Q' Q k n h kq)
  · exact h.elim
/-! == of dicts -/
def eqKv (ka kb : List (Key × PV)) : Bool := ka.length == kb.length && ka.all fun p => match getP kb p.1 with
  | some y => PV.eqb p.2 y
  | none => false
def rEqDk (K : Fw) (neg : Bool) : R2 := fun x y H Q => ∃ (Z : Addr → Prop) (w : Wd) (a b : Addr) (xa xb : List (Key × V)) (ka kb : List (Key × PV)), x = .ref a ∧ y = .ref b ∧ H a = some (.dK xa) ∧ H b = some (.dK xb) ∧ KvOk ⟨K, Z⟩ w H xa ka ∧ KvOk ⟨K, Z⟩ w H xb kb ∧
  (∀ p ∈ ka, p.2.pl = true ∧ p.2.dep ≤ 60) ∧ (∀ p ∈ kb, p.2.pl = true) ∧ Q (.bl (if neg then !eqKv ka kb else eqKv ka kb)) H
theorem valueAt_nil {κ : Type} [DecidableEq κ] {k : κ} : valueAt ([] : List (κ × Value)) k = none := rfl
theorem kv_atR {pins : List (Addr × Obj)} {σ : L2.St} {H : Hp} {s : Shared} {Z : Addr → Prop} {w : Wd} (I : Inv X pins σ H s) {xb : List (Key × V)} {kb : List (Key × PV)} {vb : List (Key × Value)} (h : KvOk ⟨fw X, Z⟩ w H xb kb) (rel : KV xb vb) (hp : ∀ p ∈ kb, p.2.pl = true) (k : Key) :
    (valueAt vb k = none ∧ getP kb k = none) ∨ ∃ u d, valueAt vb k = some u ∧ getP kb k = some d ∧ Rv s.heap u d ∧ d.pl = true := by
  unfold KvOk at h
  induction h generalizing vb with
  | nil => cases rel; exact .inl ⟨rfl, rfl⟩
  | @cons x y xs ys hx t ih =>
    cases rel with
    | @cons _ v _ vs rv rt =>
      by_cases e : x.1 = k
      · have e' : y.1 = k := hx.1.symm.trans e
        have e2 : v.1 = k := rv.1.symm.trans e
        refine .inr ⟨v.2, y.2, by simp [valueAt, List.find?_cons, e2], by simp [getP, List.find?_cons, e'], hx.2.rv I rv.2 (hp y List.mem_cons_self), hp y List.mem_cons_self⟩
      · have e' : ¬ y.1 = k := fun z => e (hx.1.trans z)
        have e2 : ¬ v.1 = k := fun z => e (rv.1.trans z)
        have b1 : valueAt (v :: vs) k = valueAt vs k := by simp [valueAt, List.find?_cons, e2]
        have b2 : getP (y :: ys) k = getP ys k := by simp [getP, List.find?_cons, e']
        rw [b1, b2]; exact ih rt fun p hp' => hp p (List.mem_cons_of_mem _ hp')
theorem keq_hits {pins : List (Addr × Obj)} {σ : L2.St} {H : Hp} {s : Shared} {Z : Addr → Prop} {w : Wd} (hu : X.A.units + 64 < cLine) (I : Inv X pins σ H s) {xa xb : List (Key × V)} {ka kb : List (Key × PV)} {va vb : List (Key × Value)} (ha : KvOk ⟨fw X, Z⟩ w H xa ka) (ra : KV xa va) (hb : KvOk ⟨fw X, Z⟩ w H xb kb) (rb : KV xb vb)
    (pa : ∀ p ∈ ka, p.2.pl = true ∧ p.2.dep ≤ 60) (pb : ∀ p ∈ kb, p.2.pl = true) :
    PySem.W.KeqHits X.A.in1 s vb va (ka.all fun p => match getP kb p.1 with | some y => PV.eqb p.2 y | none => false) := by
  unfold KvOk at ha
  induction ha generalizing va with
  | nil => cases ra; exact .nil
  | @cons x y xs ys hx t ih =>
    cases ra with
    | @cons _ v _ vs rv rt =>
      obtain ⟨vk, vv⟩ := v
      have e2 : vk = y.1 := rv.1.symm.trans hx.1
      have ih' := ih rt fun p hp' => pa p (List.mem_cons_of_mem _ hp')
      rw [List.all_cons]
      rcases kv_atR I hb rb pb vk with ⟨z1, z2⟩ | ⟨u, d, z1, z2, z3, z4⟩
      · rw [e2] at z2
        rw [z2]
        exact .miss z1
      · rw [e2] at z2
        rw [z2]
        have pa0 := pa y List.mem_cons_self
        refine .hit z1 (eqAt_rv y.2 d X.A.in1 s vv u (hx.2.rv I rv.2 pa0.1) z3 pa0.1 z4 ?_) ih'
        have h1 := Nat.min_le_left y.2.dep d.dep
        show X.A.units + 1 + min y.2.dep d.dep < cLine
        have := pa0.2
        omega
theorem op_eqDk (hu : X.A.units + 64 < cLine) : OpR X (compareOp .Eq) (rEqDk (fw X) false) := by
  intro pins s σ H x y v u Q I rx ry h
  obtain ⟨Z, w, a, b, xa, xb, ka, kb, rfl, rfl, h1, h2, k1, k2, p1, p2, q⟩ := h
  cases rx; cases ry
  obtain ⟨z1, l1, va, r1, d1⟩ := dk_of I.hok h1
  obtain ⟨z2, l2, vb, r2, d2⟩ := dk_of I.hok h2
  refine PySem.W.keq_eq l1 l2 d1 d2 (by omega) (fun _ => keq_hits hu I k1 r1 k2 r2 p1 p2) ⟨.bl _, H, I, rfl, ?_⟩
  have e1 : va.length = ka.length := r1.length.symm.trans (Paired.length k1)
  have e2 : vb.length = kb.length := r2.length.symm.trans (Paired.length k2)
  rw [e1, e2]
  exact q
theorem op_neDk (hu : X.A.units + 64 < cLine) : OpR X (compareOp .NotEq) (rEqDk (fw X) true) := by
  intro pins s σ H x y v u Q I rx ry h
  obtain ⟨Z, w, a, b, xa, xb, ka, kb, rfl, rfl, h1, h2, k1, k2, p1, p2, q⟩ := h
  cases rx; cases ry
  obtain ⟨z1, l1, va, r1, d1⟩ := dk_of I.hok h1
  obtain ⟨z2, l2, vb, r2, d2⟩ := dk_of I.hok h2
  refine PySem.W.keq_ne l1 l2 d1 d2 (by omega) (fun _ => keq_hits hu I k1 r1 k2 r2 p1 p2) ⟨.bl _, H, I, rfl, ?_⟩
  have e1 : va.length = ka.length := r1.length.symm.trans (Paired.length k1)
  have e2 : vb.length = kb.length := r2.length.symm.trans (Paired.length k2)
  rw [e1, e2]
  exact q
def dEqD (neg : Bool) : R2D := fun x y w Q => onDct x w (fun ka => onDct y w (fun kb => ((∀ p ∈ ka, p.2.pl = true ∧ p.2.dep ≤ 60) ∧ ∀ p ∈ kb, p.2.pl = true) ∧ Q (.bl (if neg then !eqKv ka kb else eqKv ka kb)) w) False) (if neg then dNe x y w Q else dEq x y w Q)
theorem l_eqDk {neg : Bool} {Z : Addr → Prop} {x y : V} {H : Hp} {a : Addr} {ka : List (Key × PV)} {dy : PV} {w : Wd} {Q' : WQ} {Q : VK} (wk : Wk ⟨K, Z⟩ w H) (nx : Dn ⟨K, Z⟩ w H x (.ref a)) (ny : Dn ⟨K, Z⟩ w H y dy) (hw : w a = some (.dct ka))
    (h : onDct dy w (fun kb => ((∀ p ∈ ka, p.2.pl = true ∧ p.2.dep ≤ 60) ∧ ∀ p ∈ kb, p.2.pl = true) ∧ Q' (.bl (if neg then !eqKv ka kb else eqKv ka kb)) w) False) (kq : ∀ v H', Post ⟨K, Z⟩ w H Q' v H' → Q v H') : rEqDk K neg x y H Q := by
  rcases onDct_or h with ⟨b, kb, rfl, hwb, ⟨p1, p2⟩, q⟩ | h
  · cases nx; cases ny
    cases wk.at_ _ _ hw with
    | dct b1 b2 =>
      cases wk.at_ _ _ hwb with
      | dct c1 c2 => exact ⟨Z, w, _, _, _, _, _, _, rfl, rfl, b1, c1, b2, c2, p1, p2, kq _ _ (post_same wk (.bl _) q)⟩
  · exact h.elim
theorem cm_eqD (hu : X.A.units + 64 < cLine) : CmD X .Eq (dEqD false) := by
  obtain ⟨r, ho, hl⟩ := (cm_eq (X := X) hu).ex
  refine ⟨_, ho.or (op_eqDk hu), fun Z x y H dx dy w Q' Q k nx ny h kq => ?_⟩
  rcases onDct_or h with ⟨a', kvs, rfl, hw, h⟩ | h
  · exact .inr (l_eqDk k nx ny hw h kq)
  · exact .inl (hl Z x y H dx dy w Q' Q k nx ny h kq)
theorem cm_neD (hu : X.A.units + 64 < cLine) : CmD X .NotEq (dEqD true) := by
  obtain ⟨r, ho, hl⟩ := (cm_ne (X := X) hu).ex
  refine ⟨_, ho.or (op_neDk hu), fun Z x y H dx dy w Q' Q k nx ny h kq => ?_⟩
  rcases onDct_or h with ⟨a', kvs, rfl, hw, h⟩ | h
  · exact .inr (l_eqDk k nx ny hw h kq)
  · exact .inl (hl Z x y H dx dy w Q' Q k nx ny h kq)
end
end Pd

/-! steps: dicts, list.index, list.count -/
namespace Pd
open PySem L2
section
variable {ρ : Sl} {w : Wd} {Q : WQ} {D : WEnds} {te ta tb : WE} {a b p : Addr} {kvs ka kb : List (Key × PV)} {ds es : List PV} {d x y : PV} {n s z : Str} {i j : Int} {B : Prop}
theorem x_onDctE {k : List (Key × PV) → Prop} {e : Prop} (hw : w a = some (.dct kvs)) (h : k kvs) : onDct (.ref a) w k e := by
  unfold onDct; simp only [hw]; exact h
theorem x_inX (hw : w a = some (.dct kvs)) (h : Q (.bl (getP kvs (.inr n)).isSome) w) : dInX false (.str n) (.ref a) w Q := x_onDctE hw ⟨_, rfl, h⟩
theorem x_ninX (hw : w a = some (.dct kvs)) (h : Q (.bl (!(getP kvs (.inr n)).isSome)) w) : dInX true (.str n) (.ref a) w Q := x_onDctE hw ⟨_, rfl, h⟩
theorem x_inXI (hw : w a = some (.dct kvs)) (h : Q (.bl (getP kvs (.inl i)).isSome) w) : dInX false (.int i) (.ref a) w Q := x_onDctE hw ⟨_, rfl, h⟩
theorem x_ninXI (hw : w a = some (.dct kvs)) (h : Q (.bl (!(getP kvs (.inl i)).isSome)) w) : dInX true (.int i) (.ref a) w Q := x_onDctE hw ⟨_, rfl, h⟩
theorem x_ixX (hw : w a = some (.dct kvs)) (hg : getP kvs (.inr n) = some d) (h : Q d w) : dIxX (.ref a) (.str n) w Q := x_onDctE hw ⟨_, d, rfl, hg, h⟩
theorem x_ixXI (hw : w a = some (.dct kvs)) (hg : getP kvs (.inl i) = some d) (h : Q d w) : dIxX (.ref a) (.int i) w Q := x_onDctE hw ⟨_, d, rfl, hg, h⟩
theorem x_eqD (h1 : w a = some (.dct ka)) (h2 : w b = some (.dct kb)) (h3 : ∀ p ∈ ka, p.2.pl = true ∧ p.2.dep ≤ 60) (h4 : ∀ p ∈ kb, p.2.pl = true) (h : Q (.bl (eqKv ka kb)) w) : dEqD false (.ref a) (.ref b) w Q :=
  x_onDctE h1 (x_onDctE h2 ⟨⟨h3, h4⟩, h⟩)
theorem x_neD (h1 : w a = some (.dct ka)) (h2 : w b = some (.dct kb)) (h3 : ∀ p ∈ ka, p.2.pl = true ∧ p.2.dep ≤ 60) (h4 : ∀ p ∈ kb, p.2.pl = true) (h : Q (.bl (!eqKv ka kb)) w) : dEqD true (.ref a) (.ref b) w Q :=
  x_onDctE h1 (x_onDctE h2 ⟨⟨h3, h4⟩, h⟩)
theorem eqKv_nil : eqKv ka [] = ka.isEmpty := by
  cases ka <;> simp [eqKv]
theorem x_listIt (hw : w a = some (.dct kvs)) (h : Q (.lst (kvs.map pairP)) w) : (onDct (.ref a) w (fun kvs => Q (.lst (kvs.map pairP)) w) False) := x_onDctE hw h
instance s_isLs : Stp (isLs (.lst ds) w ∧ B) B := ⟨fun h => ⟨⟨ds, rfl⟩, h⟩⟩
instance s_isSt : Stp (isSt (.str s) w ∧ B) B := ⟨fun h => ⟨⟨s, rfl⟩, h⟩⟩
theorem x_upper (hl : s.length ≤ 1000) (h : Q (.str (Txt.upper s)) w) : mUpper (.str s) [] w Q := ⟨hl, h⟩
theorem x_strI (hl : i.natAbs.log2 < 1920) (h : Q (.str (toString i)) w) : cStr [.int i] w Q := ⟨hl, h⟩
instance s_strS : Stp (cStr [.str s] w Q) (Q (.str s) w) := ⟨id⟩
theorem x_count (h1 : y.pl = true) (h2 : PV.pls ds = true) (h3 : y.dep ≤ 63) (h : Q (.int (ds.countP (fun e => PV.eqb e y) : Nat)) w) : mCount (.lst ds) [y] w Q := ⟨⟨h1, h2, h3⟩, h⟩
theorem x_index (j : Nat) (h1 : y.pl = true) (h2 : PV.pls ds = true) (h3 : y.dep ≤ 63) (hj : ∃ z, ds[j]? = some z ∧ PV.eqb z y = true) (hno : ∀ m z, m < j → ds[m]? = some z → PV.eqb z y = false) (h : Q (.int (j : Nat)) w) : mIndex (.lst ds) [y] w Q := ⟨⟨h1, h2, h3⟩, j, hj, hno, h⟩
end
end Pd

/-! values in order, plain mathematics -/
namespace Vy
open PySem Pd
inductive Vl where
  | num (i : Int) | txt (s : Str)
def enc : Vl → PV
  | .num i => .int i
  | .txt s => .str s
def isN : Vl → Bool
  | .num _ => true
  | .txt _ => false
def bef : Vl → Vl → Bool
  | .num i, .num j => decide (i < j)
  | .txt s, .txt t => decide (s.cps.toList < t.cps.toList)
  | .num _, .txt _ => true
  | .txt _, .num _ => false
def Le (a b : Vl) : Prop := bef b a = false
theorem str_ext {s t : Str} (h : s.cps.toList = t.cps.toList) : s = t := by
  cases s; cases t
  simp only [Str.mk.injEq]
  exact Array.toList_inj.mp h
theorem le_anti : ∀ {a b : Vl}, Le a b → Le b a → a = b
  | .num i, .num j, h1, h2 => by
    have a1 := of_decide_eq_false h1; have a2 := of_decide_eq_false h2
    rw [show i = j by omega]
  | .txt s, .txt t, h1, h2 => by
    have a1 := of_decide_eq_false h1; have a2 := of_decide_eq_false h2
    rw [str_ext (List.le_antisymm a1 a2)]
  | .num _, .txt _, h1, h2 => by simp [Le, bef] at h2
  | .txt _, .num _, h1, h2 => by simp [Le, bef] at h1
theorem le_trans : ∀ {a b c : Vl}, Le a b → Le b c → Le a c
  | .num i, .num j, .num k, h1, h2 => by
    have a1 := of_decide_eq_false h1; have a2 := of_decide_eq_false h2
    exact decide_eq_false (by omega)
  | .txt s, .txt t, .txt u, h1, h2 => by
    have a1 := of_decide_eq_false h1; have a2 := of_decide_eq_false h2
    exact decide_eq_false (List.le_trans a1 a2)
  | .num _, .num _, .txt _, _, _ => rfl
  | .num _, .txt _, .txt _, _, _ => rfl
  | .txt _, .num _, _, h1, _ => by simp [Le, bef] at h1
  | _, .txt _, .num _, _, h2 => by simp [Le, bef] at h2
theorem bef_le : ∀ {a b : Vl}, bef a b = true → Le a b
  | .num i, .num j, h => by
    have a1 := of_decide_eq_true h
    exact decide_eq_false (by omega)
  | .txt s, .txt t, h => by
    have a1 := of_decide_eq_true h
    exact decide_eq_false (List.lt_asymm a1)
  | .num _, .txt _, _ => rfl
  | .txt _, .num _, h => by simp [bef] at h
theorem put_ok {row : List Vl} {v : Vl} {m : Nat} (hs : row.Pairwise Le) (h1 : ∀ x ∈ row.take m, Le x v) (h2 : ∀ y, row[m]? = some y → bef v y = true) :
    (row.take m ++ [v] ++ row.drop m).Pairwise Le ∧ (row.take m ++ [v] ++ row.drop m).Perm (v :: row) := by
  have hd : ∀ x ∈ row.drop m, Le v x := by
    intro x hx
    cases e : row.drop m with
    | nil => rw [e] at hx; simp at hx
    | cons y r =>
      have e0 : row[m]? = some y := by
        have : (row.drop m)[0]? = some y := by rw [e]; rfl
        simpa [List.getElem?_drop] using this
      have hy := bef_le (h2 y e0)
      rw [e] at hx
      rcases List.mem_cons.mp hx with rfl | hx
      · exact hy
      · have ps : (row.drop m).Pairwise Le := hs.sublist (List.drop_sublist _ _)
        rw [e] at ps
        exact le_trans hy ((List.pairwise_cons.mp ps).1 x hx)
  constructor
  · have pt : (row.take m).Pairwise Le := hs.sublist (List.take_sublist _ _)
    have pd : (row.drop m).Pairwise Le := hs.sublist (List.drop_sublist _ _)
    have cross : ∀ a ∈ row.take m, ∀ b ∈ row.drop m, Le a b := fun a ha b hb => le_trans (h1 a ha) (hd b hb)
    rw [List.append_assoc, List.pairwise_append]
    refine ⟨pt, ?_, ?_⟩
    · rw [List.singleton_append, List.pairwise_cons]; exact ⟨hd, pd⟩
    · intro a ha b hb
      rw [List.singleton_append] at hb
      rcases List.mem_cons.mp hb with rfl | hb
      · exact h1 a ha
      · exact cross a ha b hb
  · have e : row.take m ++ row.drop m = row := List.take_append_drop m row
    rw [List.append_assoc, List.singleton_append]
    have := List.perm_middle (a := v) (l₁ := row.take m) (l₂ := row.drop m)
    rwa [e] at this
/-- the signs one by one -/
def lexW : List (Nat × Nat) → Bool → Bool
  | [], b => b
  | (c, d) :: r, b => if c = d then lexW r b else decide (c < d)
theorem lexW_eq : ∀ (xs ys : List Nat), lexW (xs.zip ys) (decide (xs.length < ys.length)) = decide (xs < ys)
  | [], [] => by simp [lexW]
  | [], y :: ys => by simp [lexW]
  | x :: xs, [] => by simp [lexW]
  | x :: xs, y :: ys => by
    simp only [List.zip_cons_cons, lexW, List.length_cons, Nat.add_lt_add_iff_right, lexW_eq xs ys, List.cons_lt_cons_iff]
    by_cases h : x = y
    · subst h; simp
    · simp [h]
def nums (vs : List Vl) : List Int := vs.filterMap fun v => match v with | .num i => some i | .txt _ => none
def txts (vs : List Vl) : List Str := vs.filterMap fun v => match v with | .num _ => none | .txt s => some s
theorem nums_enc : ∀ vs : List Vl, (vs.filter isN).map enc = (nums vs).map PV.int
  | [] => rfl
  | .num i :: r => by
    show PV.int i :: (r.filter isN).map enc = PV.int i :: (nums r).map PV.int
    rw [nums_enc r]
  | .txt s :: r => by simp [nums, isN]; exact nums_enc r
theorem txts_enc : ∀ vs : List Vl, (vs.filter fun v => !isN v).map enc = (txts vs).map PV.str
  | [] => rfl
  | .num i :: r => by simp [txts, isN]; exact txts_enc r
  | .txt s :: r => by
    show PV.str s :: (r.filter fun v => !isN v).map enc = PV.str s :: (txts r).map PV.str
    rw [txts_enc r]
theorem split_perm : ∀ vs : List Vl, ((nums vs).map Vl.num ++ (txts vs).map Vl.txt).Perm vs
  | [] => .nil
  | .num i :: r => (split_perm r).cons _
  | .txt s :: r => List.perm_middle.trans ((split_perm r).cons _)
theorem enc_split (ns : List Int) (ss : List Str) : ((ns.map Vl.num ++ ss.map Vl.txt).map enc) = ns.map PV.int ++ ss.map PV.str := by
  simp [enc, Function.comp_def]
/-- a row in order is numbers in order and then texts in order -/
theorem row_eq {row vs : List Vl} {ns : List Int} {ss : List Str} (hs : row.Pairwise Le) (hp : row.Perm vs) (n1 : ns.Perm (nums vs)) (n2 : ns.Pairwise (· ≤ ·)) (s1 : ss.Perm (txts vs)) (s2 : ss.Pairwise fun a b => ¬ b.cps.toList < a.cps.toList) : row.map enc = ns.map PV.int ++ ss.map PV.str := by
  have e : row = ns.map Vl.num ++ ss.map Vl.txt := by
    refine List.Perm.eq_of_pairwise (le := Le) (fun a b _ _ h1 h2 => le_anti h1 h2) hs ?_ ?_
    · rw [List.pairwise_append]
      refine ⟨List.pairwise_map.mpr (n2.imp fun {a b} h => decide_eq_false (by omega)), List.pairwise_map.mpr (s2.imp fun {a b} h => decide_eq_false h), ?_⟩
      intro a ha b hb
      obtain ⟨i, _, rfl⟩ := List.mem_map.mp ha
      obtain ⟨s, _, rfl⟩ := List.mem_map.mp hb
      rfl
    · exact hp.trans ((split_perm vs).symm.trans (((n1.map Vl.num).append (s1.map Vl.txt)).symm))
  rw [e, enc_split]
end Vy

/-! fields: names rising, told as pairs -/
namespace Fl
open PySem L2 Pd
abbrev sle (x y : Str) : Prop := x.cps.toList ≤ y.cps.toList
abbrev slt (x y : Str) : Prop := x.cps.toList < y.cps.toList
theorem str_ext {x y : Str} (h : x.cps.toList = y.cps.toList) : x = y := by
  cases x; cases y; simp only at h; congr 1; exact Array.toList_inj.mp h
theorem sle_antisymm {x y : Str} (a : sle x y) (b : sle y x) : x = y := str_ext (List.le_antisymm a b)
theorem slt_of_ne {x y : Str} (h : sle x y) (n : x ≠ y) : slt x y := Decidable.byContradiction fun z => n (sle_antisymm h (List.not_lt.mp z))
theorem slt_trans {x y z : Str} (a : slt x y) (b : slt y z) : slt x z := List.lt_trans a b
theorem slt_irrefl (x : Str) : ¬ slt x x := List.lt_irrefl _
theorem slt_ne {x y : Str} (h : slt x y) : x ≠ y := fun e => slt_irrefl y (by rw [e] at h; exact h)
theorem sle_of {x y : Str} (h : slt x y) : sle x y := List.le_of_lt h
/-- put in its place -/
def put (ns : List Str) (x : Str) : List Str := ns.take (ns.filter fun y => decide (slt y x)).length ++ [x] ++ ns.drop (ns.filter fun y => decide (slt y x)).length
theorem split_at : ∀ {ns : List Str} (x : Str), ns.Pairwise slt → x ∉ ns → (∀ y ∈ ns.take (ns.filter fun y => decide (slt y x)).length, slt y x) ∧ ∀ y ∈ ns.drop (ns.filter fun y => decide (slt y x)).length, slt x y
  | [], x, _, _ => ⟨fun y hy => by simp at hy, fun y hy => by simp at hy⟩
  | n :: r, x, h, hx => by
    rw [List.pairwise_cons] at h
    have ih := split_at x h.2 fun z => hx (List.mem_cons_of_mem _ z)
    by_cases c : slt n x
    · rw [List.filter_cons, if_pos (by simpa using c), List.length_cons, List.take_succ_cons, List.drop_succ_cons]
      refine ⟨fun y hy => ?_, ih.2⟩
      rcases List.mem_cons.mp hy with rfl | hy
      · exact c
      · exact ih.1 y hy
    · have hn : slt x n := slt_of_ne (List.not_lt.mp c) fun e => hx (by rw [e]; exact List.mem_cons_self)
      have e : (r.filter fun y => decide (slt y x)) = [] := List.filter_eq_nil_iff.mpr fun y hy => by
        simp only [decide_eq_true_eq]
        exact fun z => slt_irrefl x (slt_trans (slt_trans hn (h.1 y hy)) z)
      rw [List.filter_cons, if_neg (by simpa using c), e, List.length_nil, List.take_zero, List.drop_zero]
      refine ⟨fun y hy => by simp at hy, fun y hy => ?_⟩
      rcases List.mem_cons.mp hy with rfl | hy
      · exact hn
      · exact slt_trans hn (h.1 y hy)
theorem put_sorted {ns : List Str} {x : Str} (h : ns.Pairwise slt) (hx : x ∉ ns) : (put ns x).Pairwise slt := by
  obtain ⟨h1, h2⟩ := split_at x h hx
  unfold put
  rw [List.append_assoc, List.pairwise_append]
  refine ⟨h.sublist (List.take_sublist _ _), ?_, fun a ha b hb => ?_⟩
  · rw [List.singleton_append, List.pairwise_cons]
    exact ⟨h2, h.sublist (List.drop_sublist _ _)⟩
  · rw [List.singleton_append] at hb
    rcases List.mem_cons.mp hb with rfl | hb
    · exact h1 a ha
    · exact slt_trans (h1 a ha) (h2 b hb)
theorem put_perm (ns : List Str) (x : Str) : (put ns x).Perm (x :: ns) := by
  unfold put
  rw [List.append_assoc, List.singleton_append]
  refine List.perm_middle.trans ?_
  rw [List.take_append_drop]
/-- names with values -/
structure FldOk (ok : PV → Prop) (kvs : List (Key × PV)) : Prop where
  nd : (kvs.map (·.1)).Nodup
  key : ∀ kv ∈ kvs, ∃ z : Str, kv.1 = .inr z
  val : ∀ kv ∈ kvs, ok kv.2
def told (kvs : List (Key × PV)) : List PV := (kvs.mergeSort leP).map pairP
theorem FldOk.names {ok : PV → Prop} {kvs : List (Key × PV)} (h : FldOk ok kvs) : ∃ ks : List Str, kvs.map (·.1) = ks.map Sum.inr := by
  have hk := h.key
  clear h
  induction kvs with
  | nil => exact ⟨[], rfl⟩
  | cons p r ih =>
    obtain ⟨z, hz⟩ := hk p List.mem_cons_self
    obtain ⟨ks, h⟩ := ih (fun kv hkv => hk kv (List.mem_cons_of_mem _ hkv))
    exact ⟨z :: ks, by rw [List.map_cons, List.map_cons, h, hz]⟩
theorem FldOk.perm {ok : PV → Prop} {kvs ks : List (Key × PV)} (h : FldOk ok kvs) (p : ks.Perm kvs) : FldOk ok ks :=
  ⟨(p.map _).nodup_iff.mpr h.nd, fun kv hkv => h.key kv (p.mem_iff.mp hkv), fun kv hkv => h.val kv (p.mem_iff.mp hkv)⟩
theorem FldOk.sort {ok : PV → Prop} {kvs : List (Key × PV)} (h : FldOk ok kvs) : FldOk ok (kvs.mergeSort leP) := h.perm (List.mergeSort_perm _ _)
theorem leP_str {x y : Str} {d e : PV} : leP (.inr x, d) (.inr y, e) = decide (sle x y) := rfl
theorem leP_tot (a b : Key × PV) : (leP a b || leP b a) = true := by
  obtain ⟨k, d⟩ := a; obtain ⟨l, e⟩ := b
  cases k <;> cases l <;> try rfl
  rename_i x y
  rw [leP_str, leP_str]
  simp only [Bool.or_eq_true, decide_eq_true_eq]
  exact List.le_total _ _
/-- an order that is one everywhere -/
def le2 (a b : Key × PV) : Bool := match a.1, b.1 with
  | .inr x, .inr y => decide (sle x y)
  | .inl _, _ => true
  | .inr _, .inl _ => false
theorem le2_trans (a b c : Key × PV) (h1 : le2 a b = true) (h2 : le2 b c = true) : le2 a c = true := by
  obtain ⟨k, d⟩ := a; obtain ⟨l, e⟩ := b; obtain ⟨m, f⟩ := c
  cases k <;> cases l <;> cases m <;> simp [le2] at h1 h2 ⊢
  exact List.le_trans h1 h2
theorem le2_tot (a b : Key × PV) : (le2 a b || le2 b a) = true := by
  obtain ⟨k, d⟩ := a; obtain ⟨l, e⟩ := b
  cases k <;> cases l <;> simp [le2]
  exact List.le_total _ _
theorem sort_le2 {ok : PV → Prop} {kvs : List (Key × PV)} (h : FldOk ok kvs) : kvs.mergeSort leP = kvs.mergeSort le2 := by
  have := PySem.W.sort_maps (r := leP) (s := le2) (l := kvs) id (fun a ha b hb => by
    obtain ⟨x, hx⟩ := h.key a ha
    obtain ⟨y, hy⟩ := h.key b hb
    obtain ⟨k, d⟩ := a; obtain ⟨l, e⟩ := b
    simp only at hx hy
    subst hx hy
    rfl)
  simpa using this
theorem sorted_le2 {ok : PV → Prop} {kvs : List (Key × PV)} (h : FldOk ok kvs) : (kvs.mergeSort leP).Pairwise fun a b => le2 a b = true := by
  rw [sort_le2 h]
  exact List.pairwise_mergeSort le2_trans le2_tot _
theorem sort_sort {ok : PV → Prop} {kvs : List (Key × PV)} (h : FldOk ok kvs) : (kvs.mergeSort leP).mergeSort leP = kvs.mergeSort leP := by
  rw [sort_le2 h.sort]
  exact List.mergeSort_of_pairwise (sorted_le2 h)
theorem told_told {ok : PV → Prop} {kvs : List (Key × PV)} (h : FldOk ok kvs) : told (kvs.mergeSort leP) = told kvs := by
  unfold told; rw [sort_sort h]
/-- names rising, each with its value: as it is told -/
theorem told_names {ok : PV → Prop} {kvs : List (Key × PV)} {ns : List Str} (h : FldOk ok kvs) (hs : ns.Pairwise slt) (hp : (ns.map Sum.inr).Perm (kvs.map (·.1))) (g : Str → PV) (hg : ∀ z d, (Sum.inr z, d) ∈ kvs → g z = d) : (ns.map fun z => PV.tup [.str z, g z]) = told kvs := by
  have hS := h.sort
  obtain ⟨ks, hks⟩ := hS.names
  have p1 : (ks.map Sum.inr).Perm (kvs.map (·.1)) := by rw [← hks]; exact (List.mergeSort_perm _ _).map _
  have p2 : ns.Perm ks := by
    have := hp.trans p1.symm
    have q := this.map (fun k : Key => match k with | .inr z => z | .inl _ => ⟨#[]⟩)
    simpa [List.map_map, Function.comp_def] using q
  have s2 : ks.Pairwise sle := by
    have := sorted_le2 h
    have q : ((kvs.mergeSort leP).map (·.1)).Pairwise fun a b => ∀ x y, a = .inr x → b = .inr y → sle x y := by
      rw [List.pairwise_map]
      refine this.imp fun {a b} hab x y hx hy => ?_
      obtain ⟨k, d⟩ := a; obtain ⟨l, e⟩ := b
      simp only at hx hy
      subst hx hy
      simpa [le2] using hab
    rw [hks, List.pairwise_map] at q
    exact q.imp fun {a b} hab => hab a b rfl rfl
  have e : ns = ks := List.Perm.eq_of_pairwise (le := sle) (fun a b _ _ h1 h2 => sle_antisymm h1 h2) (hs.imp fun h => sle_of h) s2 p2
  subst e
  unfold told
  have mem : ∀ kv ∈ kvs.mergeSort leP, kv ∈ kvs := fun kv hkv => (List.mergeSort_perm _ _).mem_iff.mp hkv
  have hk := hS.key
  clear p1 p2 s2 hp hs hS
  generalize kvs.mergeSort leP = S at hks mem hk
  induction S generalizing ns with
  | nil => cases ns with
    | nil => rfl
    | cons _ _ => simp at hks
  | cons p r ih => cases ns with
    | nil => simp at hks
    | cons z zs =>
      simp only [List.map_cons, List.cons.injEq] at hks
      obtain ⟨k, d⟩ := p
      obtain ⟨h1, h2⟩ := hks
      simp only at h1
      subst h1
      rw [List.map_cons, List.map_cons, ih h2 (fun kv hkv => mem kv (List.mem_cons_of_mem _ hkv)) (fun kv hkv => hk kv (List.mem_cons_of_mem _ hkv)), hg z d (mem _ List.mem_cons_self)]
      rfl
theorem getP_mem {kvs : List (Key × PV)} (nd : (kvs.map (·.1)).Nodup) {k : Key} {d : PV} (h : (k, d) ∈ kvs) : getP kvs k = some d := by
  induction kvs with
  | nil => cases h
  | cons p r ih =>
    rw [List.map_cons, List.nodup_cons] at nd
    unfold getP
    rw [List.find?_cons]
    rcases List.mem_cons.mp h with e | h
    · subst e; simp
    · have : p.1 ≠ k := fun e => nd.1 (by rw [e]; exact List.mem_map.mpr ⟨(k, d), h, rfl⟩)
      simp only [this, decide_false]
      exact ih nd.2 h
theorem getP_some {kvs : List (Key × PV)} {k : Key} (h : k ∈ kvs.map (·.1)) : ∃ d, getP kvs k = some d ∧ (k, d) ∈ kvs := by
  induction kvs with
  | nil => cases h
  | cons p r ih =>
    by_cases e : p.1 = k
    · refine ⟨p.2, by unfold getP; rw [List.find?_cons]; simp [e], ?_⟩
      rw [← e]; exact List.mem_cons_self
    · rw [List.map_cons] at h
      rcases List.mem_cons.mp h with z | z
      · exact absurd z.symm e
      · obtain ⟨d, h1, h2⟩ := ih z
        refine ⟨d, ?_, List.mem_cons_of_mem _ h2⟩
        unfold getP at h1 ⊢
        rw [List.find?_cons]
        simp only [e, decide_false]
        exact h1
theorem putP_new {kvs : List (Key × PV)} {k : Key} {d : PV} (h : k ∉ kvs.map (·.1)) : putP kvs k d = kvs ++ [(k, d)] := by
  unfold putP
  rw [if_neg]
  simp only [List.any_eq_true, decide_eq_true_eq, not_exists, not_and]
  exact fun x hx e => h (by rw [← e]; exact List.mem_map.mpr ⟨x, hx, rfl⟩)
theorem putP_old {kvs : List (Key × PV)} {k : Key} {d : PV} (h : k ∈ kvs.map (·.1)) : (putP kvs k d).map (·.1) = kvs.map (·.1) ∧ (putP kvs k d).length = kvs.length ∧ ∀ kv ∈ putP kvs k d, kv ∈ kvs ∨ kv = (k, d) := by
  unfold putP
  rw [if_pos (by obtain ⟨x, hx, e⟩ := List.mem_map.mp h; simp only [List.any_eq_true, decide_eq_true_eq]; exact ⟨x, hx, e⟩)]
  refine ⟨?_, by simp, fun kv hkv => ?_⟩
  · rw [List.map_map]
    refine List.map_congr_left fun x _ => ?_
    simp only [Function.comp]
    split <;> simp_all
  · obtain ⟨x, hx, rfl⟩ := List.mem_map.mp hkv
    split
    · rename_i e; right; simp_all
    · left; exact hx
theorem FldOk.put {ok : PV → Prop} {kvs : List (Key × PV)} {z : Str} {d : PV} (h : FldOk ok kvs) (hd : ok d) : FldOk ok (putP kvs (.inr z) d) ∧ (putP kvs (.inr z) d).length ≤ kvs.length + 1 := by
  by_cases c : (Sum.inr z : Key) ∈ kvs.map (·.1)
  · obtain ⟨h1, h2, h3⟩ := putP_old (d := d) c
    refine ⟨⟨by rw [h1]; exact h.nd, fun kv hkv => ?_, fun kv hkv => ?_⟩, by omega⟩
    · rcases h3 kv hkv with q | q
      · exact h.key kv q
      · rw [q]; exact ⟨z, rfl⟩
    · rcases h3 kv hkv with q | q
      · exact h.val kv q
      · rw [q]; exact hd
  · rw [putP_new c]
    refine ⟨⟨?_, fun kv hkv => ?_, fun kv hkv => ?_⟩, by simp⟩
    · rw [List.map_append, List.nodup_append]
      refine ⟨h.nd, by simp, fun a ha b hb => ?_⟩
      simp only [List.map_cons, List.map_nil, List.mem_singleton] at hb
      subst hb
      exact fun e => c (by rw [← e]; exact ha)
    · rcases List.mem_append.mp hkv with q | q
      · exact h.key kv q
      · cases List.mem_singleton.mp q; exact ⟨z, rfl⟩
    · rcases List.mem_append.mp hkv with q | q
      · exact h.val kv q
      · cases List.mem_singleton.mp q; exact hd
theorem merge_self : ∀ {more kvs : List (Key × PV)}, ((kvs ++ more).map (·.1)).Nodup → mergeP kvs more = kvs ++ more
  | [], kvs, _ => by simp [mergeP]
  | p :: r, kvs, h => by
    have c : p.1 ∉ kvs.map (·.1) := fun z => by
      rw [List.map_append, List.nodup_append] at h
      exact h.2.2 _ z _ (by simp) rfl
    show mergeP (putP kvs p.1 p.2) r = _
    rw [putP_new c, merge_self (by simpa using h)]
    simp
theorem merge_nil {ok : PV → Prop} {kvs : List (Key × PV)} (h : FldOk ok kvs) : mergeP [] kvs = kvs := by
  have := merge_self (kvs := []) (more := kvs) (by simpa using h.nd)
  simpa using this
theorem pairs_of {ok : PV → Prop} {kvs : List (Key × PV)} (h : FldOk ok kvs) : pairsOf (kvs.map pairP) = some kvs := by
  have hk := h.key
  clear h
  induction kvs with
  | nil => rfl
  | cons p r ih =>
    obtain ⟨z, hz⟩ := hk p List.mem_cons_self
    obtain ⟨k, d⟩ := p
    simp only at hz
    subst hz
    rw [List.map_cons, pairsOf, ih fun kv hkv => hk kv (List.mem_cons_of_mem _ hkv)]
    rfl
theorem told_len (kvs : List (Key × PV)) : (told kvs).length = kvs.length := by unfold told; rw [List.length_map, List.length_mergeSort]
theorem told_each {ok : PV → Prop} {kvs : List (Key × PV)} (h : FldOk ok kvs) : ∀ p ∈ told kvs, ∃ z d, p = .tup [.str z, d] ∧ ok d := by
  intro p hp
  obtain ⟨kv, hkv, rfl⟩ := List.mem_map.mp hp
  have := (List.mergeSort_perm kvs leP).mem_iff.mp hkv
  obtain ⟨z, hz⟩ := h.key kv this
  refine ⟨z, kv.2, ?_, h.val kv this⟩
  unfold pairP
  rw [hz]
  rfl
end Fl

/-! tests of fields, plain mathematics -/
namespace Ft
open PySem L2 Pd Vy Fl
def VOk : Vl → Prop
  | .num _ => True
  | .txt s => s.length ≤ 2000
/-- a field's value -/
def FV : Vl → Prop
  | .num i => -(10 ^ 12) < i ∧ i < 10 ^ 12
  | .txt s => s.length ≤ 20
theorem FV.ok : ∀ {v : Vl}, FV v → VOk v
  | .num _, _ => True.intro
  | .txt _, h => Nat.le_trans h (by decide)
def okF : PV → Bool
  | .int i => decide (-(10 ^ 12) < i) && decide (i < 10 ^ 12)
  | .str s => decide (s.length ≤ 20)
  | _ => false
theorem okF_v : ∀ {d : PV}, okF d = true → ∃ v : Vl, d = enc v ∧ FV v
  | .int i, h => ⟨.num i, rfl, by simpa [okF, FV] using h⟩
  | .str s, h => ⟨.txt s, rfl, by simpa [okF, FV] using h⟩
  | .non, h => by simp [okF] at h
  | .bl _, h => by simp [okF] at h
  | .tup _, h => by simp [okF] at h
  | .lst _, h => by simp [okF] at h
  | .scr _, h => by simp [okF] at h
  | .ref _, h => by simp [okF] at h
  | .ty _, h => by simp [okF] at h
  | .tpl _, h => by simp [okF] at h
def okV : PV → Bool
  | .int _ => true
  | .str s => decide (s.length ≤ 2000)
  | _ => false
theorem okV_v : ∀ {d : PV}, okV d = true → ∃ v : Vl, d = enc v ∧ VOk v
  | .int i, h => ⟨.num i, rfl, True.intro⟩
  | .str s, h => ⟨.txt s, rfl, by simpa [okV, VOk] using h⟩
  | .non, h => by simp [okV] at h
  | .bl _, h => by simp [okV] at h
  | .tup _, h => by simp [okV] at h
  | .lst _, h => by simp [okV] at h
  | .scr _, h => by simp [okV] at h
  | .ref _, h => by simp [okV] at h
  | .ty _, h => by simp [okV] at h
  | .tpl _, h => by simp [okV] at h
theorem okV_enc : ∀ {v : Vl}, VOk v → okV (enc v) = true
  | .num _, _ => rfl
  | .txt s, h => by simpa [okV, enc, VOk] using h
def eqV : Vl → Vl → Bool
  | .num i, .num j => decide (i = j)
  | .txt s, .txt t => decide (s = t)
  | _, _ => false
inductive Cm where
  | is | under | over
def Cm.w : Cm → Str
  | .is => "is"
  | .under => "under"
  | .over => "over"
inductive Tst where
  | any | has (n : Str) | cmp (c : Cm) (n : Str) (v : Vl) | nt (t : Tst) | both (a b : Tst) | either (a b : Tst)
def encT : Tst → PV
  | .any => .tup [.str "any"]
  | .has n => .tup [.str "has", .str n]
  | .cmp c n v => .tup [.str c.w, .str n, enc v]
  | .nt t => .tup [.str "not", encT t]
  | .both a b => .tup [.str "both", encT a, encT b]
  | .either a b => .tup [.str "either", encT a, encT b]
def Tst.dp : Tst → Nat
  | .nt t => t.dp + 1
  | .both a b => max a.dp b.dp + 1
  | .either a b => max a.dp b.dp + 1
  | _ => 1
/-- its names and values are so -/
def Tst.ok (pn : Str → Prop) (pv : Vl → Prop) : Tst → Prop
  | .any => True
  | .has n => pn n
  | .cmp _ n v => pn n ∧ pv v
  | .nt t => t.ok pn pv
  | .both a b => a.ok pn pv ∧ b.ok pn pv
  | .either a b => a.ok pn pv ∧ b.ok pn pv
def hol : Cm → Vl → Vl → Bool
  | .is, v, o => eqV v o
  | .under, v, o => bef v o
  | .over, v, o => bef o v
def holds (c : Cm) (v o : Vl) : Bool := (isN v == isN o) && hol c v o
theorem holds_same {c : Cm} {v o : Vl} (h : isN v = isN o) : holds c v o = hol c v o := by
  unfold holds; rw [h]; simp
theorem holds_not {c : Cm} {v o : Vl} (h : ¬ isN v = isN o) : holds c v o = false := by
  unfold holds; rw [show (isN v == isN o) = false from by simpa using h]; rfl
def toV : PV → Vl
  | .int i => .num i
  | .str s => .txt s
  | _ => .num 0
theorem toV_enc : ∀ v : Vl, toV (enc v) = v
  | .num _ => rfl
  | .txt _ => rfl
def fitT (kvs : List (Key × PV)) : Tst → Bool
  | .any => true
  | .has n => (getP kvs (.inr n)).isSome
  | .cmp c n v => match getP kvs (.inr n) with
    | some d => holds c (toV d) v
    | none => false
  | .nt t => !fitT kvs t
  | .both a b => fitT kvs a && fitT kvs b
  | .either a b => fitT kvs a || fitT kvs b
theorem fitT_get {ka kb : List (Key × PV)} (h : ∀ n, getP ka (.inr n) = getP kb (.inr n)) : ∀ t : Tst, fitT ka t = fitT kb t
  | .any => rfl
  | .has n => by simp only [fitT, h]
  | .cmp c n v => by simp only [fitT, h]
  | .nt t => by simp only [fitT, fitT_get h t]
  | .both a b => by simp only [fitT, fitT_get h a, fitT_get h b]
  | .either a b => by simp only [fitT, fitT_get h a, fitT_get h b]
theorem getP_none {kvs : List (Key × PV)} {k : Key} (h : k ∉ kvs.map (·.1)) : getP kvs k = none := by
  unfold getP
  rw [List.find?_eq_none.mpr]
  · rfl
  · intro x hx
    simp only [decide_eq_true_eq]
    exact fun e => h (by rw [← e]; exact List.mem_map.mpr ⟨x, hx, rfl⟩)
theorem getP_perm {ok : PV → Prop} {ka kb : List (Key × PV)} (h : FldOk ok kb) (p : ka.Perm kb) (k : Key) : getP ka k = getP kb k := by
  by_cases c : k ∈ kb.map (·.1)
  · obtain ⟨d, h1, h2⟩ := getP_some c
    rw [h1]
    exact getP_mem (h.perm p).nd (p.mem_iff.mpr h2)
  · rw [getP_none c, getP_none (fun z => c ((p.map _).mem_iff.mp z))]
theorem fitT_sort {ok : PV → Prop} {kvs : List (Key × PV)} (h : FldOk ok kvs) (t : Tst) : fitT (kvs.mergeSort leP) t = fitT kvs t :=
  fitT_get (fun n => getP_perm h (List.mergeSort_perm _ _) _) t
theorem Tst.ok_mono {pn pn' : Str → Prop} {pv pv' : Vl → Prop} (h1 : ∀ n, pn n → pn' n) (h2 : ∀ v, pv v → pv' v) : ∀ {t : Tst}, t.ok pn pv → t.ok pn' pv'
  | .any, _ => True.intro
  | .has _, h => h1 _ h
  | .cmp _ _ _, h => ⟨h1 _ h.1, h2 _ h.2⟩
  | .nt t, h => Tst.ok_mono (t := t) h1 h2 h
  | .both a b, h => ⟨Tst.ok_mono (t := a) h1 h2 h.1, Tst.ok_mono (t := b) h1 h2 h.2⟩
  | .either a b, h => ⟨Tst.ok_mono (t := a) h1 h2 h.1, Tst.ok_mono (t := b) h1 h2 h.2⟩
theorem Tst.dp_pos : ∀ t : Tst, 1 ≤ t.dp
  | .any => Nat.le_refl _
  | .has _ => Nat.le_refl _
  | .cmp _ _ _ => Nat.le_refl _
  | .nt _ => Nat.succ_le_succ (Nat.zero_le _)
  | .both _ _ => Nat.succ_le_succ (Nat.zero_le _)
  | .either _ _ => Nat.succ_le_succ (Nat.zero_le _)
end Ft

namespace Lw
open PySem L2 Pd
def top (i : Nat) : Stmt := PySem.Challenge.pw_webstore_k06_whole_tests_together.main.body.getD i (.Pass ⟨0, 0, 0, 0⟩)
abbrev s_is_number : Stmt := top 3
abbrev n_is_number : List Str := ["thing"]
theorem sc_is_number : FnScope n_is_number ["thing"] (defScope s_is_number) := ⟨rfl, rfl, rfl, by decide +kernel, rfl, by decide +kernel, by decide +kernel⟩
abbrev s_is_text : Stmt := top 4
abbrev n_is_text : List Str := ["thing"]
theorem sc_is_text : FnScope n_is_text ["thing"] (defScope s_is_text) := ⟨rfl, rfl, rfl, by decide +kernel, rfl, by decide +kernel, by decide +kernel⟩
abbrev s_is_name : Stmt := top 5
abbrev n_is_name : List Str := ["thing", "sign"]
theorem sc_is_name : FnScope n_is_name ["thing"] (defScope s_is_name) := ⟨rfl, rfl, rfl, by decide +kernel, rfl, by decide +kernel, by decide +kernel⟩
abbrev s_is_value : Stmt := top 6
abbrev n_is_value : List Str := ["thing"]
theorem sc_is_value : FnScope n_is_value ["thing"] (defScope s_is_value) := ⟨rfl, rfl, rfl, by decide +kernel, rfl, by decide +kernel, by decide +kernel⟩
abbrev s_before : Stmt := top 7
abbrev n_before : List Str := ["one", "other"]
theorem sc_before : FnScope n_before ["one", "other"] (defScope s_before) := ⟨rfl, rfl, rfl, by decide +kernel, rfl, by decide +kernel, by decide +kernel⟩
abbrev s_are_alike : Stmt := top 8
abbrev n_are_alike : List Str := ["one", "other"]
theorem sc_are_alike : FnScope n_are_alike ["one", "other"] (defScope s_are_alike) := ⟨rfl, rfl, rfl, by decide +kernel, rfl, by decide +kernel, by decide +kernel⟩
abbrev s_as_fields : Stmt := top 9
abbrev n_as_fields : List Str := ["fields"]
theorem sc_as_fields : FnScope n_as_fields ["fields"] (defScope s_as_fields) := ⟨rfl, rfl, rfl, by decide +kernel, rfl, by decide +kernel, by decide +kernel⟩
abbrev s_fields_told : Stmt := top 10
abbrev n_fields_told : List Str := ["fields"]
theorem sc_fields_told : FnScope n_fields_told ["fields"] (defScope s_fields_told) := ⟨rfl, rfl, rfl, by decide +kernel, rfl, by decide +kernel, by decide +kernel⟩
abbrev s_is_test : Stmt := top 14
abbrev n_is_test : List Str := ["thing", "word"]
theorem sc_is_test : FnScope n_is_test ["thing"] (defScope s_is_test) := ⟨rfl, rfl, rfl, by decide +kernel, rfl, by decide +kernel, by decide +kernel⟩
abbrev s_holds_of : Stmt := top 15
abbrev n_holds_of : List Str := ["word", "value", "other"]
theorem sc_holds_of : FnScope n_holds_of ["word", "value", "other"] (defScope s_holds_of) := ⟨rfl, rfl, rfl, by decide +kernel, rfl, by decide +kernel, by decide +kernel⟩
abbrev s_fits_dict : Stmt := top 16
abbrev n_fits_dict : List Str := ["test", "fields", "word"]
theorem sc_fits_dict : FnScope n_fits_dict ["test", "fields"] (defScope s_fits_dict) := ⟨rfl, rfl, rfl, by decide +kernel, rfl, by decide +kernel, by decide +kernel⟩
abbrev s_fits : Stmt := top 17
abbrev n_fits : List Str := ["test", "fields"]
theorem sc_fits : FnScope n_fits ["test", "fields"] (defScope s_fits) := ⟨rfl, rfl, rfl, by decide +kernel, rfl, by decide +kernel, by decide +kernel⟩
abbrev s__law_hand : Stmt := top 19
abbrev n__law_hand : List Str := ["_law_script", "_law_cell"]
theorem sc__law_hand : FnScope n__law_hand ["_law_script"] (defScope s__law_hand) := ⟨rfl, rfl, rfl, by decide +kernel, rfl, by decide +kernel, by decide +kernel⟩
abbrev s__law_draw : Stmt := top 20
abbrev n__law_draw : List Str := ["_law_hand_here", "_law_many", "_law_cell", "_law_once", "_law_twice", "_law_found"]
theorem sc__law_draw : FnScope n__law_draw ["_law_hand_here", "_law_many"] (defScope s__law_draw) := ⟨rfl, rfl, rfl, by decide +kernel, rfl, by decide +kernel, by decide +kernel⟩
abbrev s__law_word : Stmt := top 21
abbrev n__law_word : List Str := ["_law_hand_here", "_law_some", "_law_k"]
theorem sc__law_word : FnScope n__law_word ["_law_hand_here"] (defScope s__law_word) := ⟨rfl, rfl, rfl, by decide +kernel, rfl, by decide +kernel, by decide +kernel⟩
abbrev s__law_value : Stmt := top 22
abbrev n__law_value : List Str := ["_law_hand_here", "_law_far", "_law_texts", "_law_some"]
theorem sc__law_value : FnScope n__law_value ["_law_hand_here"] (defScope s__law_value) := ⟨rfl, rfl, rfl, by decide +kernel, rfl, by decide +kernel, by decide +kernel⟩
abbrev s__law_fields : Stmt := top 23
abbrev n__law_fields : List Str := ["_law_hand_here", "_law_most", "_law_fields_here", "_law_k"]
theorem sc__law_fields : FnScope n__law_fields ["_law_hand_here", "_law_most"] (defScope s__law_fields) := ⟨rfl, rfl, rfl, by decide +kernel, rfl, by decide +kernel, by decide +kernel⟩
abbrev s__law_test : Stmt := top 24
abbrev n__law_test : List Str := ["_law_hand_here", "_law_deep", "_law_way"]
theorem sc__law_test : FnScope n__law_test ["_law_hand_here", "_law_deep"] (defScope s__law_test) := ⟨rfl, rfl, rfl, by decide +kernel, rfl, by decide +kernel, by decide +kernel⟩
abbrev s__law_is_number : Stmt := top 25
abbrev n__law_is_number : List Str := ["_law_thing"]
theorem sc__law_is_number : FnScope n__law_is_number ["_law_thing"] (defScope s__law_is_number) := ⟨rfl, rfl, rfl, by decide +kernel, rfl, by decide +kernel, by decide +kernel⟩
abbrev s__law_of_value : Stmt := top 26
abbrev n__law_of_value : List Str := ["_law_fields_here", "_law_name", "_law_value_here", "_law_signs", "_law_alike", "_law_held", "_law_word_here"]
theorem sc__law_of_value : FnScope n__law_of_value ["_law_fields_here", "_law_name", "_law_value_here"] (defScope s__law_of_value) := ⟨rfl, rfl, rfl, by decide +kernel, rfl, by decide +kernel, by decide +kernel⟩
abbrev s__law_joined : Stmt := top 27
abbrev n__law_joined : List Str := ["_law_word_here", "_law_tests", "_law_made", "_law_k", "_law_test_here"]
theorem sc__law_joined : FnScope n__law_joined ["_law_word_here", "_law_tests"] (defScope s__law_joined) := ⟨rfl, rfl, rfl, by decide +kernel, rfl, by decide +kernel, by decide +kernel⟩
abbrev s_law : Stmt := top 28
abbrev n_law : List Str := ["_law_script", "_law_hand_here", "_law_turn", "_law_fields_here", "_law_name", "_law_value_here", "_law_one", "_law_other", "_law_pairs", "_law_nots", "_law_no", "_law_neither", "_law_chain", "_law_found", "_law_test_here", "_law_k"]
theorem sc_law : FnScope n_law ["_law_script"] (defScope s_law) := ⟨rfl, rfl, rfl, by decide +kernel, rfl, by decide +kernel, by decide +kernel⟩
structure Tx (K : Frag) (mg : Str → Option Value) (c0 : Addr) : Prop where
  f_is_number : Fx K mg "is_number" s_is_number ["thing"]
  f_is_text : Fx K mg "is_text" s_is_text ["thing"]
  f_is_name : Fx K mg "is_name" s_is_name ["thing"]
  f_is_value : Fx K mg "is_value" s_is_value ["thing"]
  f_before : Fx K mg "before" s_before ["one", "other"]
  f_are_alike : Fx K mg "are_alike" s_are_alike ["one", "other"]
  f_as_fields : Fx K mg "as_fields" s_as_fields ["fields"]
  f_fields_told : FxC K mg "fields_told" s_fields_told ["fields"] c0
  f_is_test : Fx K mg "is_test" s_is_test ["thing"]
  f_holds_of : Fx K mg "holds_of" s_holds_of ["word", "value", "other"]
  f_fits_dict : Fx K mg "fits_dict" s_fits_dict ["test", "fields"]
  f_fits : Fx K mg "fits" s_fits ["test", "fields"]
  f__law_hand : Fx K mg "_law_hand" s__law_hand ["_law_script"]
  f__law_draw : Fx K mg "_law_draw" s__law_draw ["_law_hand_here", "_law_many"]
  f__law_word : Fx K mg "_law_word" s__law_word ["_law_hand_here"]
  f__law_value : Fx K mg "_law_value" s__law_value ["_law_hand_here"]
  f__law_fields : Fx K mg "_law_fields" s__law_fields ["_law_hand_here", "_law_most"]
  f__law_test : Fx K mg "_law_test" s__law_test ["_law_hand_here", "_law_deep"]
  f__law_is_number : Fx K mg "_law_is_number" s__law_is_number ["_law_thing"]
  f__law_of_value : Fx K mg "_law_of_value" s__law_of_value ["_law_fields_here", "_law_name", "_law_value_here"]
  f__law_joined : Fx K mg "_law_joined" s__law_joined ["_law_word_here", "_law_tests"]
  z_abs : mg "abs" = none
  z_all : mg "all" = none
  z_bool : mg "bool" = none
  z_dict : mg "dict" = none
  z_enumerate : mg "enumerate" = none
  z_int : mg "int" = none
  z_isinstance : mg "isinstance" = none
  z_len : mg "len" = none
  z_range : mg "range" = none
  z_sorted : mg "sorted" = none
  z_str : mg "str" = none
  z_tuple : mg "tuple" = none
  g_COMPARING : GT K mg "COMPARING" [.str "is", .str "under", .str "over"]
  g_JOINING : GT K mg "JOINING" [.str "both", .str "either"]
  g_LETTERS : GS mg "LETTERS" "abcdefghijklmnopqrstuvwxyz"
  g_MOST_LETTERS : GI mg "MOST_LETTERS" 8
section
variable {P : Program} {w : World} {K : Frag} {mg : Str → Option Value} {base : Heap} {c0 pt : Addr}
def rd_is_number : WS :=
  (wRet (wAndV (wCB (cI "int" isIntP) (wCons (wVar 0) (wCons (wC (.ty "int")) wNil))) (wNotV (wCB (cI "bool" isBoolP) (wCons (wVar 0) (wCons (wC (.ty "bool")) wNil))))))
theorem dv_is_number {k : Nat} (T : Tx K mg c0) : ∀ (f : Addr) (cdv : Value) (A : Around) (outer : List Env) (s : Shared) (H : Hp) (E : XK), Room k (A.deeper (PyProof.Rows.envOfC "is_number" (defScope s_is_number) s.heap.objs.size f cdv)) →
    DSs (cxOf CX0 P w K mg base n_is_number "is_number" (defScope s_is_number) f cdv A outer s H E).nox (defBody s_is_number) (rd_is_number) := fun f cdv A outer s H E hr =>
  (ds_one (ds_ret (de_and (de_callB (ca_i tr_int) (by rfl) T.z_isinstance (by decide +kernel) (da_cons (de_var 0) (da_cons (de_ty (by rfl) T.z_int (by decide +kernel)) da_nil))) (de_one (de_not (de_callB (ca_i tr_bool) (by rfl) T.z_isinstance (by decide +kernel) (da_cons (de_var 0) (da_cons (de_ty (by rfl) T.z_bool (by decide +kernel)) da_nil))))))))
theorem fd_is_number {k : Nat} {p : PSp} (T : Tx K mg c0) (len : ∀ ds w Q, p ds w Q → ds.length = 1) (hp : ∀ (d0 : PV) (w' : Wd) (Q : WQ), p [d0] w' Q → rd_is_number { nx := fun _ w2 => Q .non w2, rt := Q } [some d0] w') : FD P w K mg base "is_number" (k + 1) p :=
  fd_of T.f_is_number sc_is_number (dv_is_number T) len fun ds w' Q h => match ds, len ds w' Q h, h with | [d0], _, h => hp d0 w' Q h
def rd_is_text : WS :=
  (wRet (wCB (cI "str" isStrP) (wCons (wVar 0) (wCons (wC (.ty "str")) wNil))))
theorem dv_is_text {k : Nat} (T : Tx K mg c0) : ∀ (f : Addr) (cdv : Value) (A : Around) (outer : List Env) (s : Shared) (H : Hp) (E : XK), Room k (A.deeper (PyProof.Rows.envOfC "is_text" (defScope s_is_text) s.heap.objs.size f cdv)) →
    DSs (cxOf CX0 P w K mg base n_is_text "is_text" (defScope s_is_text) f cdv A outer s H E).nox (defBody s_is_text) (rd_is_text) := fun f cdv A outer s H E hr =>
  (ds_one (ds_ret (de_callB (ca_i tr_str) (by rfl) T.z_isinstance (by decide +kernel) (da_cons (de_var 0) (da_cons (de_ty (by rfl) T.z_str (by decide +kernel)) da_nil)))))
theorem fd_is_text {k : Nat} {p : PSp} (T : Tx K mg c0) (len : ∀ ds w Q, p ds w Q → ds.length = 1) (hp : ∀ (d0 : PV) (w' : Wd) (Q : WQ), p [d0] w' Q → rd_is_text { nx := fun _ w2 => Q .non w2, rt := Q } [some d0] w') : FD P w K mg base "is_text" (k + 1) p :=
  fd_of T.f_is_text sc_is_text (dv_is_text T) len fun ds w' Q h => match ds, len ds w' Q h, h with | [d0], _, h => hp d0 w' Q h
def rd_is_name (q_is_text : PSp) : WS :=
  (wSeq2 (wIf (wOrT (wNotT (wTest (wCall q_is_text (wCons (wVar 0) wNil)))) (wNotT (wTest (wChain (dLe) (dLe) (wC (.int 1)) (wCB cLen (wCons (wVar 0) wNil)) (wC (.int 8)))))) (wRet (wC (.bl false))) wNext) (wRet (wCB cAllX (wCons (wLc (wSeq (wVar 0)) (wName 1) wYes (wOp (dIn false) (wVar 1) (wC (.str "abcdefghijklmnopqrstuvwxyz"))) [1]) wNil))))
theorem dv_is_name {q_is_text : PSp} {k_is_text k : Nat} (T : Tx K mg c0) (F_is_text : FD P w K mg base "is_text" k_is_text q_is_text) (l_is_text : k_is_text ≤ k) : ∀ (f : Addr) (cdv : Value) (A : Around) (outer : List Env) (s : Shared) (H : Hp) (E : XK), Room k (A.deeper (PyProof.Rows.envOfC "is_name" (defScope s_is_name) s.heap.objs.size f cdv)) →
    DSs (cxOf CX0 P w K mg base n_is_name "is_name" (defScope s_is_name) f cdv A outer s H E).nox (defBody s_is_name) (rd_is_name q_is_text) := fun f cdv A outer s H E hr =>
  (ds_cons (ds_if (dt_w (dw_or (dt_not (dt_val (de_call F_is_text (hr.mono l_is_text) (by rfl) (da_cons (de_var 0) da_nil)))) (dw_or1 (dt_not (dt_chain (cm_le) (cm_le) de_int (de_callB (ca_len) (by rfl) T.z_len (by decide +kernel) (da_cons (de_var 0) da_nil)) (de_gI (by rfl) T.g_MOST_LETTERS)))))) (ds_one (ds_ret de_bl)) ds_nil) (ds_one (ds_ret (de_callB (ca_allX rfl) (by rfl) T.z_all (by decide +kernel) (da_cons (de_lc (own := [("sign", 1)]) rfl sc_is_name.nd (di_val (de_var 0)) (blkOk_by (N := n_is_name) (sc := defScope s_is_name) (by decide +kernel)) (fun _ _ _ _ _ => (dgw_name (i := 1) sc_is_name.nd rfl (by first | exact Or.inl rfl | exact Or.inr rfl) (by decide))) (fun _ _ _ _ _ => dts_nil) (fun _ _ _ _ _ => (de_cm (cm_in hr.units) (de_var 1) (de_gS (by rfl) T.g_LETTERS) (by rfl)))) da_nil)))))
theorem fd_is_name {q_is_text : PSp} {k_is_text k : Nat} {p : PSp} (T : Tx K mg c0) (F_is_text : FD P w K mg base "is_text" k_is_text q_is_text) (l_is_text : k_is_text ≤ k) (len : ∀ ds w Q, p ds w Q → ds.length = 1) (hp : ∀ (d0 : PV) (w' : Wd) (Q : WQ), p [d0] w' Q → rd_is_name q_is_text { nx := fun _ w2 => Q .non w2, rt := Q } [some d0, none] w') : FD P w K mg base "is_name" (k + 1) p :=
  fd_of T.f_is_name sc_is_name (dv_is_name T F_is_text l_is_text) len fun ds w' Q h => match ds, len ds w' Q h, h with | [d0], _, h => hp d0 w' Q h
def rd_is_value (q_is_text : PSp) (q_is_number : PSp) : WS :=
  (wRet (wOrV (wCall q_is_number (wCons (wVar 0) wNil)) (wCall q_is_text (wCons (wVar 0) wNil))))
theorem dv_is_value {q_is_text q_is_number : PSp} {k_is_text k_is_number k : Nat} (T : Tx K mg c0) (F_is_text : FD P w K mg base "is_text" k_is_text q_is_text) (l_is_text : k_is_text ≤ k) (F_is_number : FD P w K mg base "is_number" k_is_number q_is_number) (l_is_number : k_is_number ≤ k) : ∀ (f : Addr) (cdv : Value) (A : Around) (outer : List Env) (s : Shared) (H : Hp) (E : XK), Room k (A.deeper (PyProof.Rows.envOfC "is_value" (defScope s_is_value) s.heap.objs.size f cdv)) →
    DSs (cxOf CX0 P w K mg base n_is_value "is_value" (defScope s_is_value) f cdv A outer s H E).nox (defBody s_is_value) (rd_is_value q_is_text q_is_number) := fun f cdv A outer s H E hr =>
  (ds_one (ds_ret (de_or (de_call F_is_number (hr.mono l_is_number) (by rfl) (da_cons (de_var 0) da_nil)) (de_one (de_call F_is_text (hr.mono l_is_text) (by rfl) (da_cons (de_var 0) da_nil))))))
theorem fd_is_value {q_is_text q_is_number : PSp} {k_is_text k_is_number k : Nat} {p : PSp} (T : Tx K mg c0) (F_is_text : FD P w K mg base "is_text" k_is_text q_is_text) (l_is_text : k_is_text ≤ k) (F_is_number : FD P w K mg base "is_number" k_is_number q_is_number) (l_is_number : k_is_number ≤ k) (len : ∀ ds w Q, p ds w Q → ds.length = 1) (hp : ∀ (d0 : PV) (w' : Wd) (Q : WQ), p [d0] w' Q → rd_is_value q_is_text q_is_number { nx := fun _ w2 => Q .non w2, rt := Q } [some d0] w') : FD P w K mg base "is_value" (k + 1) p :=
  fd_of T.f_is_value sc_is_value (dv_is_value T F_is_text l_is_text F_is_number l_is_number) len fun ds w' Q h => match ds, len ds w' Q h, h with | [d0], _, h => hp d0 w' Q h
def rd_before (q_is_number : PSp) : WS :=
  (wSeq2 (wIf (wTest (wOp (dNe) (wCall q_is_number (wCons (wVar 0) wNil)) (wCall q_is_number (wCons (wVar 1) wNil)))) (wRet (wCall q_is_number (wCons (wVar 0) wNil))) wNext) (wRet (wOp (dLt) (wVar 0) (wVar 1))))
theorem dv_before {q_is_number : PSp} {k_is_number k : Nat} (T : Tx K mg c0) (F_is_number : FD P w K mg base "is_number" k_is_number q_is_number) (l_is_number : k_is_number ≤ k) : ∀ (f : Addr) (cdv : Value) (A : Around) (outer : List Env) (s : Shared) (H : Hp) (E : XK), Room k (A.deeper (PyProof.Rows.envOfC "before" (defScope s_before) s.heap.objs.size f cdv)) →
    DSs (cxOf CX0 P w K mg base n_before "before" (defScope s_before) f cdv A outer s H E).nox (defBody s_before) (rd_before q_is_number) := fun f cdv A outer s H E hr =>
  (ds_cons (ds_if (dt_cm (cm_ne hr.units) (de_call F_is_number (hr.mono l_is_number) (by rfl) (da_cons (de_var 0) da_nil)) (de_call F_is_number (hr.mono l_is_number) (by rfl) (da_cons (de_var 1) da_nil)) (nomark _)) (ds_one (ds_ret (de_call F_is_number (hr.mono l_is_number) (by rfl) (da_cons (de_var 0) da_nil)))) ds_nil) (ds_one (ds_ret (de_cm (cm_lt) (de_var 0) (de_var 1) (nomark _)))))
theorem fd_before {q_is_number : PSp} {k_is_number k : Nat} {p : PSp} (T : Tx K mg c0) (F_is_number : FD P w K mg base "is_number" k_is_number q_is_number) (l_is_number : k_is_number ≤ k) (len : ∀ ds w Q, p ds w Q → ds.length = 2) (hp : ∀ (d0 d1 : PV) (w' : Wd) (Q : WQ), p [d0, d1] w' Q → rd_before q_is_number { nx := fun _ w2 => Q .non w2, rt := Q } [some d0, some d1] w') : FD P w K mg base "before" (k + 1) p :=
  fd_of T.f_before sc_before (dv_before T F_is_number l_is_number) len fun ds w' Q h => match ds, len ds w' Q h, h with | [d0, d1], _, h => hp d0 d1 w' Q h
def rd_are_alike (q_is_number : PSp) : WS :=
  (wRet (wAndV (wOp (dEq) (wCall q_is_number (wCons (wVar 0) wNil)) (wCall q_is_number (wCons (wVar 1) wNil))) (wOp (dEq) (wVar 0) (wVar 1))))
theorem dv_are_alike {q_is_number : PSp} {k_is_number k : Nat} (T : Tx K mg c0) (F_is_number : FD P w K mg base "is_number" k_is_number q_is_number) (l_is_number : k_is_number ≤ k) : ∀ (f : Addr) (cdv : Value) (A : Around) (outer : List Env) (s : Shared) (H : Hp) (E : XK), Room k (A.deeper (PyProof.Rows.envOfC "are_alike" (defScope s_are_alike) s.heap.objs.size f cdv)) →
    DSs (cxOf CX0 P w K mg base n_are_alike "are_alike" (defScope s_are_alike) f cdv A outer s H E).nox (defBody s_are_alike) (rd_are_alike q_is_number) := fun f cdv A outer s H E hr =>
  (ds_one (ds_ret (de_and (de_cm (cm_eq hr.units) (de_call F_is_number (hr.mono l_is_number) (by rfl) (da_cons (de_var 0) da_nil)) (de_call F_is_number (hr.mono l_is_number) (by rfl) (da_cons (de_var 1) da_nil)) (nomark _)) (de_one (de_cm (cm_eq hr.units) (de_var 0) (de_var 1) (nomark _))))))
theorem fd_are_alike {q_is_number : PSp} {k_is_number k : Nat} {p : PSp} (T : Tx K mg c0) (F_is_number : FD P w K mg base "is_number" k_is_number q_is_number) (l_is_number : k_is_number ≤ k) (len : ∀ ds w Q, p ds w Q → ds.length = 2) (hp : ∀ (d0 d1 : PV) (w' : Wd) (Q : WQ), p [d0, d1] w' Q → rd_are_alike q_is_number { nx := fun _ w2 => Q .non w2, rt := Q } [some d0, some d1] w') : FD P w K mg base "are_alike" (k + 1) p :=
  fd_of T.f_are_alike sc_are_alike (dv_are_alike T F_is_number l_is_number) len fun ds w' Q h => match ds, len ds w' Q h, h with | [d0, d1], _, h => hp d0 d1 w' Q h
def rd_as_fields : WS :=
  (wRet (wCB cDict (wCons (wVar 0) wNil)))
theorem dv_as_fields {k : Nat} (T : Tx K mg c0) : ∀ (f : Addr) (cdv : Value) (A : Around) (outer : List Env) (s : Shared) (H : Hp) (E : XK), Room k (A.deeper (PyProof.Rows.envOfC "as_fields" (defScope s_as_fields) s.heap.objs.size f cdv)) →
    DSs (cxOf CX0 P w K mg base n_as_fields "as_fields" (defScope s_as_fields) f cdv A outer s H E).nox (defBody s_as_fields) (rd_as_fields) := fun f cdv A outer s H E hr =>
  (ds_one (ds_ret (de_callTy (ca_dict rfl) (by rfl) T.z_dict (by decide +kernel) (da_cons (de_var 0) da_nil))))
theorem fd_as_fields {k : Nat} {p : PSp} (T : Tx K mg c0) (len : ∀ ds w Q, p ds w Q → ds.length = 1) (hp : ∀ (d0 : PV) (w' : Wd) (Q : WQ), p [d0] w' Q → rd_as_fields { nx := fun _ w2 => Q .non w2, rt := Q } [some d0] w') : FD P w K mg base "as_fields" (k + 1) p :=
  fd_of T.f_as_fields sc_as_fields (dv_as_fields T) len fun ds w' Q h => match ds, len ds w' Q h, h with | [d0], _, h => hp d0 w' Q h
def rd_fields_told (q_as_fields : PSp) (pt : Addr) : WS :=
  (wRet (wCB cTupP (wCons (wSortIt pt "fields_told.<locals>.<lambda>" (wCall q_as_fields (wCons (wVar 0) wNil))) wNil)))
theorem dv_fields_told {q_as_fields : PSp} {k_as_fields k : Nat} (T : Tx K mg c0) (TB : LamX.TabB base mg c0 pt) (F_as_fields : FD P w K mg base "as_fields" k_as_fields q_as_fields) (l_as_fields : k_as_fields ≤ k) : ∀ (f : Addr) (A : Around) (outer : List Env) (s : Shared) (H : Hp) (E : XK), Room k (A.deeper (PyProof.Rows.envOfC "fields_told" (defScope s_fields_told) s.heap.objs.size f (.ref c0))) →
    DSs (cxOf CX0 P w K mg base n_fields_told "fields_told" (defScope s_fields_told) f (.ref c0) A outer s H E).nox (defBody s_fields_told) (rd_fields_told q_as_fields pt) := fun f A outer s H E hr =>
  (ds_one (ds_ret (de_callTy ca_tupP (by rfl) T.z_tuple (by decide +kernel) (da_cons (de_sortIt (P := pt) (q := "fields_told.<locals>.<lambda>") (x := "pair") rfl (hr.mono (Nat.le_refl _)) TB rfl rfl ⟨rfl, rfl, rfl, by decide +kernel, by decide +kernel, rfl⟩ rfl (fun _ _ _ _ => rfl) (by decide) (by rfl) T.z_sorted (de_call F_as_fields (hr.mono l_as_fields) (by rfl) (da_cons (de_var 0) da_nil))) da_nil))))
theorem fd_fields_told {q_as_fields : PSp} {k_as_fields k : Nat} {p : PSp} (T : Tx K mg c0) (TB : LamX.TabB base mg c0 pt) (F_as_fields : FD P w K mg base "as_fields" k_as_fields q_as_fields) (l_as_fields : k_as_fields ≤ k) (len : ∀ ds w Q, p ds w Q → ds.length = 1) (hp : ∀ (d0 : PV) (w' : Wd) (Q : WQ), p [d0] w' Q → rd_fields_told q_as_fields pt { nx := fun _ w2 => Q .non w2, rt := Q } [some d0] w') : FD P w K mg base "fields_told" (k + 1) p :=
  fd_ofC T.f_fields_told sc_fields_told (dv_fields_told T TB F_as_fields l_as_fields) len fun ds w' Q h => match ds, len ds w' Q h, h with | [d0], _, h => hp d0 w' Q h
def rd_is_test (q_is_test : PSp) (q_is_value : PSp) (q_is_name : PSp) : WS :=
  (wSeq2 (wIf (wOrT (wNotT (wTest (wCB (cI "tuple" isTupP) (wCons (wVar 0) (wCons (wC (.ty "tuple")) wNil))))) (wOrT (wTest (wOp (dEq) (wCB cLen (wCons (wVar 0) wNil)) (wC (.int 0)))) (wNotT (wTest (wCB (cI "str" isStrP) (wCons (wIxC 0 (wVar 0)) (wCons (wC (.ty "str")) wNil))))))) (wRet (wC (.bl false))) wNext) (wSeq2 (wAsg (wIxC 0 (wVar 0)) (wName 1)) (wSeq2 (wIf (wTest (wOp (dEq) (wVar 1) (wC (.str "any")))) (wRet (wOp (dEq) (wCB cLen (wCons (wVar 0) wNil)) (wC (.int 1)))) wNext) (wSeq2 (wIf (wTest (wOp (dEq) (wVar 1) (wC (.str "has")))) (wRet (wAndV (wOp (dEq) (wCB cLen (wCons (wVar 0) wNil)) (wC (.int 2))) (wCall q_is_name (wCons (wIxC 1 (wVar 0)) wNil)))) wNext) (wSeq2 (wIf (wTest (wOp (dIn false) (wVar 1) (wC (.tup [.str "is", .str "under", .str "over"])))) (wRet (wAndV (wOp (dEq) (wCB cLen (wCons (wVar 0) wNil)) (wC (.int 3))) (wAndV (wCall q_is_name (wCons (wIxC 1 (wVar 0)) wNil)) (wCall q_is_value (wCons (wIxC 2 (wVar 0)) wNil))))) wNext) (wSeq2 (wIf (wTest (wOp (dIn false) (wVar 1) (wC (.tup [.str "both", .str "either"])))) (wRet (wAndV (wOp (dEq) (wCB cLen (wCons (wVar 0) wNil)) (wC (.int 3))) (wAndV (wCall q_is_test (wCons (wIxC 1 (wVar 0)) wNil)) (wCall q_is_test (wCons (wIxC 2 (wVar 0)) wNil))))) wNext) (wRet (wAndV (wOp (dEq) (wVar 1) (wC (.str "not"))) (wAndV (wOp (dEq) (wCB cLen (wCons (wVar 0) wNil)) (wC (.int 2))) (wCall q_is_test (wCons (wIxC 1 (wVar 0)) wNil)))))))))))
theorem dv_is_test {q_is_test q_is_value q_is_name : PSp} {k_is_test k_is_value k_is_name k : Nat} (T : Tx K mg c0) (F_is_test : FD P w K mg base "is_test" k_is_test q_is_test) (l_is_test : k_is_test ≤ k) (F_is_value : FD P w K mg base "is_value" k_is_value q_is_value) (l_is_value : k_is_value ≤ k) (F_is_name : FD P w K mg base "is_name" k_is_name q_is_name) (l_is_name : k_is_name ≤ k) : ∀ (f : Addr) (cdv : Value) (A : Around) (outer : List Env) (s : Shared) (H : Hp) (E : XK), Room k (A.deeper (PyProof.Rows.envOfC "is_test" (defScope s_is_test) s.heap.objs.size f cdv)) →
    DSs (cxOf CX0 P w K mg base n_is_test "is_test" (defScope s_is_test) f cdv A outer s H E).nox (defBody s_is_test) (rd_is_test q_is_test q_is_value q_is_name) := fun f cdv A outer s H E hr =>
  (ds_cons (ds_if (dt_w (dw_or (dt_not (dt_val (de_callB (ca_i tr_tup) (by rfl) T.z_isinstance (by decide +kernel) (da_cons (de_var 0) (da_cons (de_ty (by rfl) T.z_tuple (by decide +kernel)) da_nil))))) (dw_or (dt_cm (cm_eq hr.units) (de_callB (ca_len) (by rfl) T.z_len (by decide +kernel) (da_cons (de_var 0) da_nil)) de_int (nomark _)) (dw_or1 (dt_not (dt_val (de_callB (ca_i tr_str) (by rfl) T.z_isinstance (by decide +kernel) (da_cons (de_ixc 0 (de_var 0)) (da_cons (de_ty (by rfl) T.z_str (by decide +kernel)) da_nil))))))))) (ds_one (ds_ret de_bl)) ds_nil) (ds_cons (ds_asg (de_ixc 0 (de_var 0)) (dg_name (i := 1) sc_is_test.nd rfl (by first | exact Or.inl rfl | exact Or.inr rfl))) (ds_cons (ds_if (dt_cm (cm_eq hr.units) (de_var 1) de_str (nomark _)) (ds_one (ds_ret (de_cm (cm_eq hr.units) (de_callB (ca_len) (by rfl) T.z_len (by decide +kernel) (da_cons (de_var 0) da_nil)) de_int (nomark _)))) ds_nil) (ds_cons (ds_if (dt_cm (cm_eq hr.units) (de_var 1) de_str (nomark _)) (ds_one (ds_ret (de_and (de_cm (cm_eq hr.units) (de_callB (ca_len) (by rfl) T.z_len (by decide +kernel) (da_cons (de_var 0) da_nil)) de_int (nomark _)) (de_one (de_call F_is_name (hr.mono l_is_name) (by rfl) (da_cons (de_ixc 1 (de_var 0)) da_nil)))))) ds_nil) (ds_cons (ds_if (dt_cm (cm_in hr.units) (de_var 1) (de_gT (by rfl) T.g_COMPARING) (by rfl)) (ds_one (ds_ret (de_and (de_cm (cm_eq hr.units) (de_callB (ca_len) (by rfl) T.z_len (by decide +kernel) (da_cons (de_var 0) da_nil)) de_int (nomark _)) (de_and (de_call F_is_name (hr.mono l_is_name) (by rfl) (da_cons (de_ixc 1 (de_var 0)) da_nil)) (de_one (de_call F_is_value (hr.mono l_is_value) (by rfl) (da_cons (de_ixc 2 (de_var 0)) da_nil))))))) ds_nil) (ds_cons (ds_if (dt_cm (cm_in hr.units) (de_var 1) (de_gT (by rfl) T.g_JOINING) (by rfl)) (ds_one (ds_ret (de_and (de_cm (cm_eq hr.units) (de_callB (ca_len) (by rfl) T.z_len (by decide +kernel) (da_cons (de_var 0) da_nil)) de_int (nomark _)) (de_and (de_call F_is_test (hr.mono l_is_test) (by rfl) (da_cons (de_ixc 1 (de_var 0)) da_nil)) (de_one (de_call F_is_test (hr.mono l_is_test) (by rfl) (da_cons (de_ixc 2 (de_var 0)) da_nil))))))) ds_nil) (ds_one (ds_ret (de_and (de_cm (cm_eq hr.units) (de_var 1) de_str (nomark _)) (de_and (de_cm (cm_eq hr.units) (de_callB (ca_len) (by rfl) T.z_len (by decide +kernel) (da_cons (de_var 0) da_nil)) de_int (nomark _)) (de_one (de_call F_is_test (hr.mono l_is_test) (by rfl) (da_cons (de_ixc 1 (de_var 0)) da_nil)))))))))))))
theorem fd_is_test {q_is_test q_is_value q_is_name : PSp} {k_is_test k_is_value k_is_name k : Nat} {p : PSp} (T : Tx K mg c0) (F_is_test : FD P w K mg base "is_test" k_is_test q_is_test) (l_is_test : k_is_test ≤ k) (F_is_value : FD P w K mg base "is_value" k_is_value q_is_value) (l_is_value : k_is_value ≤ k) (F_is_name : FD P w K mg base "is_name" k_is_name q_is_name) (l_is_name : k_is_name ≤ k) (len : ∀ ds w Q, p ds w Q → ds.length = 1) (hp : ∀ (d0 : PV) (w' : Wd) (Q : WQ), p [d0] w' Q → rd_is_test q_is_test q_is_value q_is_name { nx := fun _ w2 => Q .non w2, rt := Q } [some d0, none] w') : FD P w K mg base "is_test" (k + 1) p :=
  fd_of T.f_is_test sc_is_test (dv_is_test T F_is_test l_is_test F_is_value l_is_value F_is_name l_is_name) len fun ds w' Q h => match ds, len ds w' Q h, h with | [d0], _, h => hp d0 w' Q h
def rd_holds_of (q_before : PSp) (q_are_alike : PSp) (q_is_number : PSp) : WS :=
  (wSeq2 (wIf (wTest (wOp (dNe) (wCall q_is_number (wCons (wVar 1) wNil)) (wCall q_is_number (wCons (wVar 2) wNil)))) (wRet (wC (.bl false))) wNext) (wSeq2 (wIf (wTest (wOp (dEq) (wVar 0) (wC (.str "is")))) (wRet (wCall q_are_alike (wCons (wVar 1) (wCons (wVar 2) wNil)))) wNext) (wSeq2 (wIf (wTest (wOp (dEq) (wVar 0) (wC (.str "under")))) (wRet (wCall q_before (wCons (wVar 1) (wCons (wVar 2) wNil)))) wNext) (wRet (wCall q_before (wCons (wVar 2) (wCons (wVar 1) wNil)))))))
theorem dv_holds_of {q_before q_are_alike q_is_number : PSp} {k_before k_are_alike k_is_number k : Nat} (T : Tx K mg c0) (F_before : FD P w K mg base "before" k_before q_before) (l_before : k_before ≤ k) (F_are_alike : FD P w K mg base "are_alike" k_are_alike q_are_alike) (l_are_alike : k_are_alike ≤ k) (F_is_number : FD P w K mg base "is_number" k_is_number q_is_number) (l_is_number : k_is_number ≤ k) : ∀ (f : Addr) (cdv : Value) (A : Around) (outer : List Env) (s : Shared) (H : Hp) (E : XK), Room k (A.deeper (PyProof.Rows.envOfC "holds_of" (defScope s_holds_of) s.heap.objs.size f cdv)) →
    DSs (cxOf CX0 P w K mg base n_holds_of "holds_of" (defScope s_holds_of) f cdv A outer s H E).nox (defBody s_holds_of) (rd_holds_of q_before q_are_alike q_is_number) := fun f cdv A outer s H E hr =>
  (ds_cons (ds_if (dt_cm (cm_ne hr.units) (de_call F_is_number (hr.mono l_is_number) (by rfl) (da_cons (de_var 1) da_nil)) (de_call F_is_number (hr.mono l_is_number) (by rfl) (da_cons (de_var 2) da_nil)) (nomark _)) (ds_one (ds_ret de_bl)) ds_nil) (ds_cons (ds_if (dt_cm (cm_eq hr.units) (de_var 0) de_str (nomark _)) (ds_one (ds_ret (de_call F_are_alike (hr.mono l_are_alike) (by rfl) (da_cons (de_var 1) (da_cons (de_var 2) da_nil))))) ds_nil) (ds_cons (ds_if (dt_cm (cm_eq hr.units) (de_var 0) de_str (nomark _)) (ds_one (ds_ret (de_call F_before (hr.mono l_before) (by rfl) (da_cons (de_var 1) (da_cons (de_var 2) da_nil))))) ds_nil) (ds_one (ds_ret (de_call F_before (hr.mono l_before) (by rfl) (da_cons (de_var 2) (da_cons (de_var 1) da_nil))))))))
theorem fd_holds_of {q_before q_are_alike q_is_number : PSp} {k_before k_are_alike k_is_number k : Nat} {p : PSp} (T : Tx K mg c0) (F_before : FD P w K mg base "before" k_before q_before) (l_before : k_before ≤ k) (F_are_alike : FD P w K mg base "are_alike" k_are_alike q_are_alike) (l_are_alike : k_are_alike ≤ k) (F_is_number : FD P w K mg base "is_number" k_is_number q_is_number) (l_is_number : k_is_number ≤ k) (len : ∀ ds w Q, p ds w Q → ds.length = 3) (hp : ∀ (d0 d1 d2 : PV) (w' : Wd) (Q : WQ), p [d0, d1, d2] w' Q → rd_holds_of q_before q_are_alike q_is_number { nx := fun _ w2 => Q .non w2, rt := Q } [some d0, some d1, some d2] w') : FD P w K mg base "holds_of" (k + 1) p :=
  fd_of T.f_holds_of sc_holds_of (dv_holds_of T F_before l_before F_are_alike l_are_alike F_is_number l_is_number) len fun ds w' Q h => match ds, len ds w' Q h, h with | [d0, d1, d2], _, h => hp d0 d1 d2 w' Q h
def rd_fits_dict (q_fits_dict : PSp) (q_holds_of : PSp) : WS :=
  (wSeq2 (wAsg (wIxC 0 (wVar 0)) (wName 2)) (wSeq2 (wIf (wTest (wOp (dEq) (wVar 2) (wC (.str "any")))) (wRet (wC (.bl true))) wNext) (wSeq2 (wIf (wTest (wOp (dEq) (wVar 2) (wC (.str "has")))) (wRet (wOp (dInX false) (wIxC 1 (wVar 0)) (wVar 1))) wNext) (wSeq2 (wIf (wTest (wOp (dIn false) (wVar 2) (wC (.tup [.str "is", .str "under", .str "over"])))) (wRet (wAndV (wOp (dInX false) (wIxC 1 (wVar 0)) (wVar 1)) (wCall q_holds_of (wCons (wVar 2) (wCons (wOp dIxX (wVar 1) (wIxC 1 (wVar 0))) (wCons (wIxC 2 (wVar 0)) wNil)))))) wNext) (wSeq2 (wIf (wTest (wOp (dEq) (wVar 2) (wC (.str "both")))) (wRet (wAndV (wCall q_fits_dict (wCons (wIxC 1 (wVar 0)) (wCons (wVar 1) wNil))) (wCall q_fits_dict (wCons (wIxC 2 (wVar 0)) (wCons (wVar 1) wNil))))) wNext) (wSeq2 (wIf (wTest (wOp (dEq) (wVar 2) (wC (.str "either")))) (wRet (wOrV (wCall q_fits_dict (wCons (wIxC 1 (wVar 0)) (wCons (wVar 1) wNil))) (wCall q_fits_dict (wCons (wIxC 2 (wVar 0)) (wCons (wVar 1) wNil))))) wNext) (wRet (wNotV (wCall q_fits_dict (wCons (wIxC 1 (wVar 0)) (wCons (wVar 1) wNil)))))))))))
theorem dv_fits_dict {q_fits_dict q_holds_of : PSp} {k_fits_dict k_holds_of k : Nat} (T : Tx K mg c0) (F_fits_dict : FD P w K mg base "fits_dict" k_fits_dict q_fits_dict) (l_fits_dict : k_fits_dict ≤ k) (F_holds_of : FD P w K mg base "holds_of" k_holds_of q_holds_of) (l_holds_of : k_holds_of ≤ k) : ∀ (f : Addr) (cdv : Value) (A : Around) (outer : List Env) (s : Shared) (H : Hp) (E : XK), Room k (A.deeper (PyProof.Rows.envOfC "fits_dict" (defScope s_fits_dict) s.heap.objs.size f cdv)) →
    DSs (cxOf CX0 P w K mg base n_fits_dict "fits_dict" (defScope s_fits_dict) f cdv A outer s H E).nox (defBody s_fits_dict) (rd_fits_dict q_fits_dict q_holds_of) := fun f cdv A outer s H E hr =>
  (ds_cons (ds_asg (de_ixc 0 (de_var 0)) (dg_name (i := 2) sc_fits_dict.nd rfl (by first | exact Or.inl rfl | exact Or.inr rfl))) (ds_cons (ds_if (dt_cm (cm_eq hr.units) (de_var 2) de_str (nomark _)) (ds_one (ds_ret de_bl)) ds_nil) (ds_cons (ds_if (dt_cm (cm_eq hr.units) (de_var 2) de_str (nomark _)) (ds_one (ds_ret (de_cm (cm_inX hr.units) (de_ixc 1 (de_var 0)) (de_var 1) (by rfl)))) ds_nil) (ds_cons (ds_if (dt_cm (cm_in hr.units) (de_var 2) (de_gT (by rfl) T.g_COMPARING) (by rfl)) (ds_one (ds_ret (de_and (de_cm (cm_inX hr.units) (de_ixc 1 (de_var 0)) (de_var 1) (by rfl)) (de_one (de_call F_holds_of (hr.mono l_holds_of) (by rfl) (da_cons (de_var 2) (da_cons (de_ixX hr.units (de_var 1) (de_ixc 1 (de_var 0))) (da_cons (de_ixc 2 (de_var 0)) da_nil)))))))) ds_nil) (ds_cons (ds_if (dt_cm (cm_eq hr.units) (de_var 2) de_str (nomark _)) (ds_one (ds_ret (de_and (de_call F_fits_dict (hr.mono l_fits_dict) (by rfl) (da_cons (de_ixc 1 (de_var 0)) (da_cons (de_var 1) da_nil))) (de_one (de_call F_fits_dict (hr.mono l_fits_dict) (by rfl) (da_cons (de_ixc 2 (de_var 0)) (da_cons (de_var 1) da_nil))))))) ds_nil) (ds_cons (ds_if (dt_cm (cm_eq hr.units) (de_var 2) de_str (nomark _)) (ds_one (ds_ret (de_or (de_call F_fits_dict (hr.mono l_fits_dict) (by rfl) (da_cons (de_ixc 1 (de_var 0)) (da_cons (de_var 1) da_nil))) (de_one (de_call F_fits_dict (hr.mono l_fits_dict) (by rfl) (da_cons (de_ixc 2 (de_var 0)) (da_cons (de_var 1) da_nil))))))) ds_nil) (ds_one (ds_ret (de_not (de_call F_fits_dict (hr.mono l_fits_dict) (by rfl) (da_cons (de_ixc 1 (de_var 0)) (da_cons (de_var 1) da_nil))))))))))))
theorem fd_fits_dict {q_fits_dict q_holds_of : PSp} {k_fits_dict k_holds_of k : Nat} {p : PSp} (T : Tx K mg c0) (F_fits_dict : FD P w K mg base "fits_dict" k_fits_dict q_fits_dict) (l_fits_dict : k_fits_dict ≤ k) (F_holds_of : FD P w K mg base "holds_of" k_holds_of q_holds_of) (l_holds_of : k_holds_of ≤ k) (len : ∀ ds w Q, p ds w Q → ds.length = 2) (hp : ∀ (d0 d1 : PV) (w' : Wd) (Q : WQ), p [d0, d1] w' Q → rd_fits_dict q_fits_dict q_holds_of { nx := fun _ w2 => Q .non w2, rt := Q } [some d0, some d1, none] w') : FD P w K mg base "fits_dict" (k + 1) p :=
  fd_of T.f_fits_dict sc_fits_dict (dv_fits_dict T F_fits_dict l_fits_dict F_holds_of l_holds_of) len fun ds w' Q h => match ds, len ds w' Q h, h with | [d0, d1], _, h => hp d0 d1 w' Q h
def rd_fits (q_fits_dict : PSp) (q_as_fields : PSp) : WS :=
  (wRet (wCall q_fits_dict (wCons (wVar 0) (wCons (wCall q_as_fields (wCons (wVar 1) wNil)) wNil))))
theorem dv_fits {q_fits_dict q_as_fields : PSp} {k_fits_dict k_as_fields k : Nat} (T : Tx K mg c0) (F_fits_dict : FD P w K mg base "fits_dict" k_fits_dict q_fits_dict) (l_fits_dict : k_fits_dict ≤ k) (F_as_fields : FD P w K mg base "as_fields" k_as_fields q_as_fields) (l_as_fields : k_as_fields ≤ k) : ∀ (f : Addr) (cdv : Value) (A : Around) (outer : List Env) (s : Shared) (H : Hp) (E : XK), Room k (A.deeper (PyProof.Rows.envOfC "fits" (defScope s_fits) s.heap.objs.size f cdv)) →
    DSs (cxOf CX0 P w K mg base n_fits "fits" (defScope s_fits) f cdv A outer s H E).nox (defBody s_fits) (rd_fits q_fits_dict q_as_fields) := fun f cdv A outer s H E hr =>
  (ds_one (ds_ret (de_call F_fits_dict (hr.mono l_fits_dict) (by rfl) (da_cons (de_var 0) (da_cons (de_call F_as_fields (hr.mono l_as_fields) (by rfl) (da_cons (de_var 1) da_nil)) da_nil)))))
theorem fd_fits {q_fits_dict q_as_fields : PSp} {k_fits_dict k_as_fields k : Nat} {p : PSp} (T : Tx K mg c0) (F_fits_dict : FD P w K mg base "fits_dict" k_fits_dict q_fits_dict) (l_fits_dict : k_fits_dict ≤ k) (F_as_fields : FD P w K mg base "as_fields" k_as_fields q_as_fields) (l_as_fields : k_as_fields ≤ k) (len : ∀ ds w Q, p ds w Q → ds.length = 2) (hp : ∀ (d0 d1 : PV) (w' : Wd) (Q : WQ), p [d0, d1] w' Q → rd_fits q_fits_dict q_as_fields { nx := fun _ w2 => Q .non w2, rt := Q } [some d0, some d1] w') : FD P w K mg base "fits" (k + 1) p :=
  fd_of T.f_fits sc_fits (dv_fits T F_fits_dict l_fits_dict F_as_fields l_as_fields) len fun ds w' Q h => match ds, len ds w' Q h, h with | [d0, d1], _, h => hp d0 d1 w' Q h
def rd__law_hand : WS :=
  (wRet (wMLst (wCons (wLc (wSeq (wSl (wVar 0) wNo (wPart (wC (.int 63))))) (wName 1) wYes (wCB cAbs (wCons (wVar 1) wNil)) [1]) (wCons (wC (.int 0)) (wCons (wC (.int 0)) (wCons (wC (.int 0)) wNil))))))
theorem dv__law_hand {k : Nat} (T : Tx K mg c0) : ∀ (f : Addr) (cdv : Value) (A : Around) (outer : List Env) (s : Shared) (H : Hp) (E : XK), Room k (A.deeper (PyProof.Rows.envOfC "_law_hand" (defScope s__law_hand) s.heap.objs.size f cdv)) →
    DSs (cxOf CX0 P w K mg base n__law_hand "_law_hand" (defScope s__law_hand) f cdv A outer s H E).nox (defBody s__law_hand) (rd__law_hand) := fun f cdv A outer s H E hr =>
  (ds_one (ds_ret (de_mlst (da_cons (de_lc (own := [("_law_cell", 1)]) rfl sc__law_hand.nd (di_val (de_slice (de_var 0) do_none (do_some de_int))) (blkOk_by (N := n__law_hand) (sc := defScope s__law_hand) (by decide +kernel)) (fun _ _ _ _ _ => (dgw_name (i := 1) sc__law_hand.nd rfl (by first | exact Or.inl rfl | exact Or.inr rfl) (by decide))) (fun _ _ _ _ _ => dts_nil) (fun _ _ _ _ _ => (de_callB (ca_abs) (by rfl) T.z_abs (by decide +kernel) (da_cons (de_var 1) da_nil)))) (da_cons de_int (da_cons de_int (da_cons de_int da_nil)))))))
theorem fd__law_hand {k : Nat} {p : PSp} (T : Tx K mg c0) (len : ∀ ds w Q, p ds w Q → ds.length = 1) (hp : ∀ (d0 : PV) (w' : Wd) (Q : WQ), p [d0] w' Q → rd__law_hand { nx := fun _ w2 => Q .non w2, rt := Q } [some d0, none] w') : FD P w K mg base "_law_hand" (k + 1) p :=
  fd_of T.f__law_hand sc__law_hand (dv__law_hand T) len fun ds w' Q h => match ds, len ds w' Q h, h with | [d0], _, h => hp d0 w' Q h
def rd__law_draw : WS :=
  (wSeq2 (wAsg (wOp dAdd (wIxC 3 (wVar 0)) (wC (.int 1))) (wgSubC 3 (wVar 0))) (wSeq2 (wIf (wTest (wOp (dEq) (wIxC 2 (wVar 0)) (wC (.int 0)))) (wSeq2 (wAsg (wC (.int 0)) (wName 2)) (wSeq2 (wIf (wTest (wOp (dGt) (wCB cLen (wCons (wIxC 0 (wVar 0)) wNil)) (wC (.int 0)))) (wAsg (wOp dIx (wIxC 0 (wVar 0)) (wOp dMod (wIxC 1 (wVar 0)) (wCB cLen (wCons (wIxC 0 (wVar 0)) wNil)))) (wName 2)) wNext) (wSeq2 (wAsg (wOp dAdd (wIxC 1 (wVar 0)) (wC (.int 1))) (wgSubC 1 (wVar 0))) (wSeq2 (wIf (wOrT (wTest (wOp (dLt) (wVar 2) (wOp dPow (wC (.int 10)) (wC (.int 18))))) (wTest (wOp (dGt) (wIxC 1 (wVar 0)) (wCB cLen (wCons (wIxC 0 (wVar 0)) wNil))))) (wSeq2 (wAsg (wOp dAdd (wOp dAdd (wOp dMod (wVar 2) (wC (.int 2147483629))) (wOp dMul (wC (.int 7919)) (wIxC 3 (wVar 0)))) (wC (.int 11))) (wName 3)) (wSeq2 (wAsg (wOp dMod (wOp dMul (wVar 3) (wOp dAdd (wC (.int 48271)) (wOp dMul (wC (.int 2)) (wIxC 3 (wVar 0))))) (wC (.int 2147483647))) (wName 3)) (wSeq2 (wAsg (wOp dMod (wOp dAdd (wOp dMul (wVar 3) (wOp dAdd (wOp dMod (wVar 3) (wC (.int 39373))) (wIxC 3 (wVar 0)))) (wOp dMul (wC (.int 31)) (wIxC 3 (wVar 0)))) (wC (.int 1999999973))) (wName 4)) (wRet (wOp dMod (wOp dFdiv (wVar 4) (wC (.int 7))) (wVar 1)))))) wNext) (wAsg (wVar 2) (wgSubC 2 (wVar 0))))))) wNext) (wSeq2 (wAsg (wOp dMod (wIxC 2 (wVar 0)) (wVar 1)) (wName 5)) (wSeq2 (wAsg (wOp dFdiv (wIxC 2 (wVar 0)) (wVar 1)) (wgSubC 2 (wVar 0))) (wRet (wVar 5))))))
theorem dv__law_draw {k : Nat} (T : Tx K mg c0) : ∀ (f : Addr) (cdv : Value) (A : Around) (outer : List Env) (s : Shared) (H : Hp) (E : XK), Room k (A.deeper (PyProof.Rows.envOfC "_law_draw" (defScope s__law_draw) s.heap.objs.size f cdv)) →
    DSs (cxOf CX0 P w K mg base n__law_draw "_law_draw" (defScope s__law_draw) f cdv A outer s H E).nox (defBody s__law_draw) (rd__law_draw) := fun f cdv A outer s H E hr =>
  (ds_cons (ds_asg (de_add (de_ixc 3 (de_var 0)) de_int) (dg_subc 3 (de_var 0))) (ds_cons (ds_if (dt_cm (cm_eq hr.units) (de_ixc 2 (de_var 0)) de_int (nomark _)) (ds_cons (ds_asg de_int (dg_name (i := 2) sc__law_draw.nd rfl (by first | exact Or.inl rfl | exact Or.inr rfl))) (ds_cons (ds_if (dt_cm (cm_gt) (de_callB (ca_len) (by rfl) T.z_len (by decide +kernel) (da_cons (de_ixc 0 (de_var 0)) da_nil)) de_int (nomark _)) (ds_one (ds_asg (de_ix (de_ixc 0 (de_var 0)) (de_mod (de_ixc 1 (de_var 0)) (de_callB (ca_len) (by rfl) T.z_len (by decide +kernel) (da_cons (de_ixc 0 (de_var 0)) da_nil)))) (dg_name (i := 2) sc__law_draw.nd rfl (by first | exact Or.inl rfl | exact Or.inr rfl)))) ds_nil) (ds_cons (ds_asg (de_add (de_ixc 1 (de_var 0)) de_int) (dg_subc 1 (de_var 0))) (ds_cons (ds_if (dt_w (dw_or (dt_cm (cm_lt) (de_var 2) (de_pow de_int de_int) (nomark _)) (dw_or1 (dt_cm (cm_gt) (de_ixc 1 (de_var 0)) (de_callB (ca_len) (by rfl) T.z_len (by decide +kernel) (da_cons (de_ixc 0 (de_var 0)) da_nil)) (nomark _))))) (ds_cons (ds_asg (de_add (de_add (de_mod (de_var 2) de_int) (de_mul de_int (de_ixc 3 (de_var 0)))) de_int) (dg_name (i := 3) sc__law_draw.nd rfl (by first | exact Or.inl rfl | exact Or.inr rfl))) (ds_cons (ds_asg (de_mod (de_mul (de_var 3) (de_add de_int (de_mul de_int (de_ixc 3 (de_var 0))))) de_int) (dg_name (i := 3) sc__law_draw.nd rfl (by first | exact Or.inl rfl | exact Or.inr rfl))) (ds_cons (ds_asg (de_mod (de_add (de_mul (de_var 3) (de_add (de_mod (de_var 3) de_int) (de_ixc 3 (de_var 0)))) (de_mul de_int (de_ixc 3 (de_var 0)))) de_int) (dg_name (i := 4) sc__law_draw.nd rfl (by first | exact Or.inl rfl | exact Or.inr rfl))) (ds_one (ds_ret (de_mod (de_fdiv (de_var 4) de_int) (de_var 1))))))) ds_nil) (ds_one (ds_asg (de_var 2) (dg_subc 2 (de_var 0)))))))) ds_nil) (ds_cons (ds_asg (de_mod (de_ixc 2 (de_var 0)) (de_var 1)) (dg_name (i := 5) sc__law_draw.nd rfl (by first | exact Or.inl rfl | exact Or.inr rfl))) (ds_cons (ds_asg (de_fdiv (de_ixc 2 (de_var 0)) (de_var 1)) (dg_subc 2 (de_var 0))) (ds_one (ds_ret (de_var 5)))))))
theorem fd__law_draw {k : Nat} {p : PSp} (T : Tx K mg c0) (len : ∀ ds w Q, p ds w Q → ds.length = 2) (hp : ∀ (d0 d1 : PV) (w' : Wd) (Q : WQ), p [d0, d1] w' Q → rd__law_draw { nx := fun _ w2 => Q .non w2, rt := Q } [some d0, some d1, none, none, none, none] w') : FD P w K mg base "_law_draw" (k + 1) p :=
  fd_of T.f__law_draw sc__law_draw (dv__law_draw T) len fun ds w' Q h => match ds, len ds w' Q h, h with | [d0, d1], _, h => hp d0 d1 w' Q h
def rd__law_word (q__law_draw : PSp) : WS :=
  (wSeq2 (wAsg (wLst (wCons (wC (.str "b")) (wCons (wC (.str "aa")) (wCons (wC (.str "zebra")) (wCons (wC (.str "c")) (wCons (wC (.str "quartzes")) (wCons (wC (.str "ab")) (wCons (wC (.str "m")) (wCons (wC (.str "knows")) (wCons (wC (.str "d")) (wCons (wC (.str "mm")) (wCons (wC (.str "likes")) (wCons (wC (.str "z")) (wCons (wC (.str "a")) (wCons (wC (.str "age")) wNil))))))))))))))) (wName 1)) (wSeq2 (wIf (wTest (wOp (dGt) (wCall q__law_draw (wCons (wVar 0) (wCons (wC (.int 12)) wNil))) (wC (.int 0)))) (wRet (wOp dIx (wVar 1) (wCall q__law_draw (wCons (wVar 0) (wCons (wC (.int 14)) wNil))))) wNext) (wRet (wJoin (wC (.str "")) (wLc (wRng1 (wCons (wOp dAdd (wC (.int 1)) (wCall q__law_draw (wCons (wVar 0) (wCons (wC (.int 8)) wNil)))) wNil)) (wName 2) wYes (wOp dIx (wC (.str "abcdefghijklmnopqrstuvwxyz")) (wCall q__law_draw (wCons (wVar 0) (wCons (wC (.int 26)) wNil)))) [2])))))
theorem dv__law_word {q__law_draw : PSp} {k__law_draw k : Nat} (T : Tx K mg c0) (F__law_draw : FD P w K mg base "_law_draw" k__law_draw q__law_draw) (l__law_draw : k__law_draw ≤ k) : ∀ (f : Addr) (cdv : Value) (A : Around) (outer : List Env) (s : Shared) (H : Hp) (E : XK), Room k (A.deeper (PyProof.Rows.envOfC "_law_word" (defScope s__law_word) s.heap.objs.size f cdv)) →
    DSs (cxOf CX0 P w K mg base n__law_word "_law_word" (defScope s__law_word) f cdv A outer s H E).nox (defBody s__law_word) (rd__law_word q__law_draw) := fun f cdv A outer s H E hr =>
  (ds_cons (ds_asg (de_lst (da_cons de_str (da_cons de_str (da_cons de_str (da_cons de_str (da_cons de_str (da_cons de_str (da_cons de_str (da_cons de_str (da_cons de_str (da_cons de_str (da_cons de_str (da_cons de_str (da_cons de_str (da_cons de_str da_nil))))))))))))))) (dg_name (i := 1) sc__law_word.nd rfl (by first | exact Or.inl rfl | exact Or.inr rfl))) (ds_cons (ds_if (dt_cm (cm_gt) (de_call F__law_draw (hr.mono l__law_draw) (by rfl) (da_cons (de_var 0) (da_cons de_int da_nil))) de_int (nomark _)) (ds_one (ds_ret (de_ix (de_var 1) (de_call F__law_draw (hr.mono l__law_draw) (by rfl) (da_cons (de_var 0) (da_cons de_int da_nil)))))) ds_nil) (ds_one (ds_ret (de_join de_str (de_lc (own := [("_law_k", 2)]) rfl sc__law_word.nd (di_range1 (by rfl) T.z_range (da_cons (de_add de_int (de_call F__law_draw (hr.mono l__law_draw) (by rfl) (da_cons (de_var 0) (da_cons de_int da_nil)))) da_nil)) (blkOk_by (N := n__law_word) (sc := defScope s__law_word) (by decide +kernel)) (fun _ _ _ _ _ => (dgw_name (i := 2) sc__law_word.nd rfl (by first | exact Or.inl rfl | exact Or.inr rfl) (by decide))) (fun _ _ _ _ _ => dts_nil) (fun _ _ _ _ _ => (de_ix de_str (de_call F__law_draw (hr.mono l__law_draw) (by rfl) (da_cons (de_var 0) (da_cons de_int da_nil)))))))))))
theorem fd__law_word {q__law_draw : PSp} {k__law_draw k : Nat} {p : PSp} (T : Tx K mg c0) (F__law_draw : FD P w K mg base "_law_draw" k__law_draw q__law_draw) (l__law_draw : k__law_draw ≤ k) (len : ∀ ds w Q, p ds w Q → ds.length = 1) (hp : ∀ (d0 : PV) (w' : Wd) (Q : WQ), p [d0] w' Q → rd__law_word q__law_draw { nx := fun _ w2 => Q .non w2, rt := Q } [some d0, none, none] w') : FD P w K mg base "_law_word" (k + 1) p :=
  fd_of T.f__law_word sc__law_word (dv__law_word T F__law_draw l__law_draw) len fun ds w' Q h => match ds, len ds w' Q h, h with | [d0], _, h => hp d0 w' Q h
def rd__law_value (q__law_draw : PSp) : WS :=
  (wSeq2 (wAsg (wOp dIx (wLst (wCons (wOp dSub (wOp dPow (wC (.int 10)) (wC (.int 12))) (wC (.int 1))) (wCons (wOp dSub (wC (.int 1)) (wOp dPow (wC (.int 10)) (wC (.int 12)))) (wCons (wOp dAdd (wOp dPow (wC (.int 10)) (wC (.int 11))) (wCall q__law_draw (wCons (wVar 0) (wCons (wOp dPow (wC (.int 10)) (wC (.int 6))) wNil)))) wNil)))) (wCall q__law_draw (wCons (wVar 0) (wCons (wC (.int 3)) wNil)))) (wName 1)) (wSeq2 (wAsg (wLst (wCons (wC (.str "")) (wCons (wC (.str "b")) (wCons (wC (.str "aa")) (wCons (wC (.str "B")) (wCons (wC (.str "ab c")) (wCons (wC (.str "12")) (wCons (wC (.str "-3")) (wCons (wC (.str "~")) (wCons (wC (.str " ")) (wCons (wC (.str "a")) (wCons (wC (.str "zzzzzzzzzzzzzzzzzzzz")) (wCons (wC (.str "0")) wNil))))))))))))) (wName 2)) (wSeq2 (wAsg (wLst (wCons (wCall q__law_draw (wCons (wVar 0) (wCons (wC (.int 5)) wNil))) (wCons (wOp dSub (wCall q__law_draw (wCons (wVar 0) (wCons (wC (.int 2001)) wNil))) (wC (.int 1000))) (wCons (wVar 1) (wCons (wOp dIx (wVar 2) (wCall q__law_draw (wCons (wVar 0) (wCons (wC (.int 12)) wNil)))) wNil))))) (wName 3)) (wRet (wOp dIx (wVar 3) (wOp dIx (wLst (wCons (wC (.int 0)) (wCons (wC (.int 1)) (wCons (wC (.int 2)) (wCons (wC (.int 3)) (wCons (wC (.int 3)) wNil)))))) (wCall q__law_draw (wCons (wVar 0) (wCons (wC (.int 5)) wNil)))))))))
theorem dv__law_value {q__law_draw : PSp} {k__law_draw k : Nat} (T : Tx K mg c0) (F__law_draw : FD P w K mg base "_law_draw" k__law_draw q__law_draw) (l__law_draw : k__law_draw ≤ k) : ∀ (f : Addr) (cdv : Value) (A : Around) (outer : List Env) (s : Shared) (H : Hp) (E : XK), Room k (A.deeper (PyProof.Rows.envOfC "_law_value" (defScope s__law_value) s.heap.objs.size f cdv)) →
    DSs (cxOf CX0 P w K mg base n__law_value "_law_value" (defScope s__law_value) f cdv A outer s H E).nox (defBody s__law_value) (rd__law_value q__law_draw) := fun f cdv A outer s H E hr =>
  (ds_cons (ds_asg (de_ix (de_lst (da_cons (de_sub (de_pow de_int de_int) de_int) (da_cons (de_sub de_int (de_pow de_int de_int)) (da_cons (de_add (de_pow de_int de_int) (de_call F__law_draw (hr.mono l__law_draw) (by rfl) (da_cons (de_var 0) (da_cons (de_pow de_int de_int) da_nil)))) da_nil)))) (de_call F__law_draw (hr.mono l__law_draw) (by rfl) (da_cons (de_var 0) (da_cons de_int da_nil)))) (dg_name (i := 1) sc__law_value.nd rfl (by first | exact Or.inl rfl | exact Or.inr rfl))) (ds_cons (ds_asg (de_lst (da_cons de_str (da_cons de_str (da_cons de_str (da_cons de_str (da_cons de_str (da_cons de_str (da_cons de_str (da_cons de_str (da_cons de_str (da_cons de_str (da_cons de_str (da_cons de_str da_nil))))))))))))) (dg_name (i := 2) sc__law_value.nd rfl (by first | exact Or.inl rfl | exact Or.inr rfl))) (ds_cons (ds_asg (de_lst (da_cons (de_call F__law_draw (hr.mono l__law_draw) (by rfl) (da_cons (de_var 0) (da_cons de_int da_nil))) (da_cons (de_sub (de_call F__law_draw (hr.mono l__law_draw) (by rfl) (da_cons (de_var 0) (da_cons de_int da_nil))) de_int) (da_cons (de_var 1) (da_cons (de_ix (de_var 2) (de_call F__law_draw (hr.mono l__law_draw) (by rfl) (da_cons (de_var 0) (da_cons de_int da_nil)))) da_nil))))) (dg_name (i := 3) sc__law_value.nd rfl (by first | exact Or.inl rfl | exact Or.inr rfl))) (ds_one (ds_ret (de_ix (de_var 3) (de_ix (de_lst (da_cons de_int (da_cons de_int (da_cons de_int (da_cons de_int (da_cons de_int da_nil)))))) (de_call F__law_draw (hr.mono l__law_draw) (by rfl) (da_cons (de_var 0) (da_cons de_int da_nil))))))))))
theorem fd__law_value {q__law_draw : PSp} {k__law_draw k : Nat} {p : PSp} (T : Tx K mg c0) (F__law_draw : FD P w K mg base "_law_draw" k__law_draw q__law_draw) (l__law_draw : k__law_draw ≤ k) (len : ∀ ds w Q, p ds w Q → ds.length = 1) (hp : ∀ (d0 : PV) (w' : Wd) (Q : WQ), p [d0] w' Q → rd__law_value q__law_draw { nx := fun _ w2 => Q .non w2, rt := Q } [some d0, none, none, none] w') : FD P w K mg base "_law_value" (k + 1) p :=
  fd_of T.f__law_value sc__law_value (dv__law_value T F__law_draw l__law_draw) len fun ds w' Q h => match ds, len ds w' Q h, h with | [d0], _, h => hp d0 w' Q h
def rd__law_fields (q__law_draw : PSp) (q__law_value : PSp) (q__law_word : PSp) : WS :=
  (wSeq2 (wAsg wDNewK (wName 2)) (wSeq2 (wFor (wRng1 (wCons (wCall q__law_draw (wCons (wVar 0) (wCons (wOp dAdd (wVar 1) (wC (.int 1))) wNil))) wNil)) (wName 3) (wAsg (wCall q__law_value (wCons (wVar 0) wNil)) (wgSubX (wVar 2) (wCall q__law_word (wCons (wVar 0) wNil))))) (wRet (wVar 2))))
theorem dv__law_fields {q__law_draw q__law_value q__law_word : PSp} {k__law_draw k__law_value k__law_word k : Nat} (T : Tx K mg c0) (F__law_draw : FD P w K mg base "_law_draw" k__law_draw q__law_draw) (l__law_draw : k__law_draw ≤ k) (F__law_value : FD P w K mg base "_law_value" k__law_value q__law_value) (l__law_value : k__law_value ≤ k) (F__law_word : FD P w K mg base "_law_word" k__law_word q__law_word) (l__law_word : k__law_word ≤ k) : ∀ (f : Addr) (cdv : Value) (A : Around) (outer : List Env) (s : Shared) (H : Hp) (E : XK), Room k (A.deeper (PyProof.Rows.envOfC "_law_fields" (defScope s__law_fields) s.heap.objs.size f cdv)) →
    DSs (cxOf CX0 P w K mg base n__law_fields "_law_fields" (defScope s__law_fields) f cdv A outer s H E).nox (defBody s__law_fields) (rd__law_fields q__law_draw q__law_value q__law_word) := fun f cdv A outer s H E hr =>
  (ds_cons (ds_asg de_dnewK (dg_name (i := 2) sc__law_fields.nd rfl (by first | exact Or.inl rfl | exact Or.inr rfl))) (ds_cons (ds_for PassesOwn.never rfl (di_range1 (by rfl) T.z_range (da_cons (de_call F__law_draw (hr.mono l__law_draw) (by rfl) (da_cons (de_var 0) (da_cons (de_add (de_var 1) de_int) da_nil))) da_nil)) (dg_name (i := 3) sc__law_fields.nd rfl (by first | exact Or.inl rfl | exact Or.inr rfl)) (ds_one (ds_asg (de_call F__law_value (hr.mono l__law_value) (by rfl) (da_cons (de_var 0) da_nil)) (dg_subx (room70 hr) (de_var 2) (de_call F__law_word (hr.mono l__law_word) (by rfl) (da_cons (de_var 0) da_nil)))))) (ds_one (ds_ret (de_var 2)))))
theorem fd__law_fields {q__law_draw q__law_value q__law_word : PSp} {k__law_draw k__law_value k__law_word k : Nat} {p : PSp} (T : Tx K mg c0) (F__law_draw : FD P w K mg base "_law_draw" k__law_draw q__law_draw) (l__law_draw : k__law_draw ≤ k) (F__law_value : FD P w K mg base "_law_value" k__law_value q__law_value) (l__law_value : k__law_value ≤ k) (F__law_word : FD P w K mg base "_law_word" k__law_word q__law_word) (l__law_word : k__law_word ≤ k) (len : ∀ ds w Q, p ds w Q → ds.length = 2) (hp : ∀ (d0 d1 : PV) (w' : Wd) (Q : WQ), p [d0, d1] w' Q → rd__law_fields q__law_draw q__law_value q__law_word { nx := fun _ w2 => Q .non w2, rt := Q } [some d0, some d1, none, none] w') : FD P w K mg base "_law_fields" (k + 1) p :=
  fd_of T.f__law_fields sc__law_fields (dv__law_fields T F__law_draw l__law_draw F__law_value l__law_value F__law_word l__law_word) len fun ds w' Q h => match ds, len ds w' Q h, h with | [d0, d1], _, h => hp d0 d1 w' Q h
def rd__law_test (q__law_test : PSp) (q__law_value : PSp) (q__law_word : PSp) (q__law_draw : PSp) : WS :=
  (wSeq2 (wAsg (wCall q__law_draw (wCons (wVar 0) (wCons (wC (.int 9)) wNil))) (wName 2)) (wSeq2 (wIf (wOrT (wTest (wOp (dLt) (wVar 2) (wC (.int 2)))) (wAndT (wTest (wOp (dEq) (wVar 1) (wC (.int 0)))) (wTest (wOp (dGt) (wVar 2) (wC (.int 5)))))) (wRet (wOp dIx (wLst (wCons (wTup (wCons (wC (.str "any")) wNil)) (wCons (wTup (wCons (wC (.str "has")) (wCons (wCall q__law_word (wCons (wVar 0) wNil)) wNil))) wNil))) (wOp dFdiv (wCall q__law_draw (wCons (wVar 0) (wCons (wC (.int 4)) wNil))) (wC (.int 2))))) wNext) (wSeq2 (wIf (wTest (wOp (dLt) (wVar 2) (wC (.int 6)))) (wRet (wTup (wCons (wOp dIx (wLst (wCons (wC (.str "is")) (wCons (wC (.str "under")) (wCons (wC (.str "over")) (wCons (wC (.str "is")) wNil))))) (wOp dSub (wVar 2) (wC (.int 2)))) (wCons (wCall q__law_word (wCons (wVar 0) wNil)) (wCons (wCall q__law_value (wCons (wVar 0) wNil)) wNil))))) wNext) (wSeq2 (wIf (wTest (wOp (dEq) (wVar 2) (wC (.int 6)))) (wRet (wTup (wCons (wC (.str "not")) (wCons (wCall q__law_test (wCons (wVar 0) (wCons (wOp dSub (wVar 1) (wC (.int 1))) wNil))) wNil)))) wNext) (wRet (wTup (wCons (wOp dIx (wLst (wCons (wC (.str "both")) (wCons (wC (.str "either")) wNil))) (wOp dSub (wVar 2) (wC (.int 7)))) (wCons (wCall q__law_test (wCons (wVar 0) (wCons (wOp dSub (wVar 1) (wC (.int 1))) wNil))) (wCons (wCall q__law_test (wCons (wVar 0) (wCons (wOp dSub (wVar 1) (wC (.int 1))) wNil))) wNil)))))))))
theorem dv__law_test {q__law_test q__law_value q__law_word q__law_draw : PSp} {k__law_test k__law_value k__law_word k__law_draw k : Nat} (T : Tx K mg c0) (F__law_test : FD P w K mg base "_law_test" k__law_test q__law_test) (l__law_test : k__law_test ≤ k) (F__law_value : FD P w K mg base "_law_value" k__law_value q__law_value) (l__law_value : k__law_value ≤ k) (F__law_word : FD P w K mg base "_law_word" k__law_word q__law_word) (l__law_word : k__law_word ≤ k) (F__law_draw : FD P w K mg base "_law_draw" k__law_draw q__law_draw) (l__law_draw : k__law_draw ≤ k) : ∀ (f : Addr) (cdv : Value) (A : Around) (outer : List Env) (s : Shared) (H : Hp) (E : XK), Room k (A.deeper (PyProof.Rows.envOfC "_law_test" (defScope s__law_test) s.heap.objs.size f cdv)) →
    DSs (cxOf CX0 P w K mg base n__law_test "_law_test" (defScope s__law_test) f cdv A outer s H E).nox (defBody s__law_test) (rd__law_test q__law_test q__law_value q__law_word q__law_draw) := fun f cdv A outer s H E hr =>
  (ds_cons (ds_asg (de_call F__law_draw (hr.mono l__law_draw) (by rfl) (da_cons (de_var 0) (da_cons de_int da_nil))) (dg_name (i := 2) sc__law_test.nd rfl (by first | exact Or.inl rfl | exact Or.inr rfl))) (ds_cons (ds_if (dt_w (dw_or (dt_cm (cm_lt) (de_var 2) de_int (nomark _)) (dw_or1 (dt_w (dw_and (dt_cm (cm_eq hr.units) (de_var 1) de_int (nomark _)) (dw_and1 (dt_cm (cm_gt) (de_var 2) de_int (nomark _)))))))) (ds_one (ds_ret (de_ix (de_lst (da_cons (de_tup (da_cons de_str da_nil)) (da_cons (de_tup (da_cons de_str (da_cons (de_call F__law_word (hr.mono l__law_word) (by rfl) (da_cons (de_var 0) da_nil)) da_nil))) da_nil))) (de_fdiv (de_call F__law_draw (hr.mono l__law_draw) (by rfl) (da_cons (de_var 0) (da_cons de_int da_nil))) de_int)))) ds_nil) (ds_cons (ds_if (dt_cm (cm_lt) (de_var 2) de_int (nomark _)) (ds_one (ds_ret (de_tup (da_cons (de_ix (de_lst (da_cons de_str (da_cons de_str (da_cons de_str (da_cons de_str da_nil))))) (de_sub (de_var 2) de_int)) (da_cons (de_call F__law_word (hr.mono l__law_word) (by rfl) (da_cons (de_var 0) da_nil)) (da_cons (de_call F__law_value (hr.mono l__law_value) (by rfl) (da_cons (de_var 0) da_nil)) da_nil)))))) ds_nil) (ds_cons (ds_if (dt_cm (cm_eq hr.units) (de_var 2) de_int (nomark _)) (ds_one (ds_ret (de_tup (da_cons de_str (da_cons (de_call F__law_test (hr.mono l__law_test) (by rfl) (da_cons (de_var 0) (da_cons (de_sub (de_var 1) de_int) da_nil))) da_nil))))) ds_nil) (ds_one (ds_ret (de_tup (da_cons (de_ix (de_lst (da_cons de_str (da_cons de_str da_nil))) (de_sub (de_var 2) de_int)) (da_cons (de_call F__law_test (hr.mono l__law_test) (by rfl) (da_cons (de_var 0) (da_cons (de_sub (de_var 1) de_int) da_nil))) (da_cons (de_call F__law_test (hr.mono l__law_test) (by rfl) (da_cons (de_var 0) (da_cons (de_sub (de_var 1) de_int) da_nil))) da_nil))))))))))
theorem fd__law_test {q__law_test q__law_value q__law_word q__law_draw : PSp} {k__law_test k__law_value k__law_word k__law_draw k : Nat} {p : PSp} (T : Tx K mg c0) (F__law_test : FD P w K mg base "_law_test" k__law_test q__law_test) (l__law_test : k__law_test ≤ k) (F__law_value : FD P w K mg base "_law_value" k__law_value q__law_value) (l__law_value : k__law_value ≤ k) (F__law_word : FD P w K mg base "_law_word" k__law_word q__law_word) (l__law_word : k__law_word ≤ k) (F__law_draw : FD P w K mg base "_law_draw" k__law_draw q__law_draw) (l__law_draw : k__law_draw ≤ k) (len : ∀ ds w Q, p ds w Q → ds.length = 2) (hp : ∀ (d0 d1 : PV) (w' : Wd) (Q : WQ), p [d0, d1] w' Q → rd__law_test q__law_test q__law_value q__law_word q__law_draw { nx := fun _ w2 => Q .non w2, rt := Q } [some d0, some d1, none] w') : FD P w K mg base "_law_test" (k + 1) p :=
  fd_of T.f__law_test sc__law_test (dv__law_test T F__law_test l__law_test F__law_value l__law_value F__law_word l__law_word F__law_draw l__law_draw) len fun ds w' Q h => match ds, len ds w' Q h, h with | [d0, d1], _, h => hp d0 d1 w' Q h
def rd__law_is_number : WS :=
  (wRet (wAndV (wCB (cI "int" isIntP) (wCons (wVar 0) (wCons (wC (.ty "int")) wNil))) (wNotV (wCB (cI "bool" isBoolP) (wCons (wVar 0) (wCons (wC (.ty "bool")) wNil))))))
theorem dv__law_is_number {k : Nat} (T : Tx K mg c0) : ∀ (f : Addr) (cdv : Value) (A : Around) (outer : List Env) (s : Shared) (H : Hp) (E : XK), Room k (A.deeper (PyProof.Rows.envOfC "_law_is_number" (defScope s__law_is_number) s.heap.objs.size f cdv)) →
    DSs (cxOf CX0 P w K mg base n__law_is_number "_law_is_number" (defScope s__law_is_number) f cdv A outer s H E).nox (defBody s__law_is_number) (rd__law_is_number) := fun f cdv A outer s H E hr =>
  (ds_one (ds_ret (de_and (de_callB (ca_i tr_int) (by rfl) T.z_isinstance (by decide +kernel) (da_cons (de_var 0) (da_cons (de_ty (by rfl) T.z_int (by decide +kernel)) da_nil))) (de_one (de_not (de_callB (ca_i tr_bool) (by rfl) T.z_isinstance (by decide +kernel) (da_cons (de_var 0) (da_cons (de_ty (by rfl) T.z_bool (by decide +kernel)) da_nil))))))))
theorem fd__law_is_number {k : Nat} {p : PSp} (T : Tx K mg c0) (len : ∀ ds w Q, p ds w Q → ds.length = 1) (hp : ∀ (d0 : PV) (w' : Wd) (Q : WQ), p [d0] w' Q → rd__law_is_number { nx := fun _ w2 => Q .non w2, rt := Q } [some d0] w') : FD P w K mg base "_law_is_number" (k + 1) p :=
  fd_of T.f__law_is_number sc__law_is_number (dv__law_is_number T) len fun ds w' Q h => match ds, len ds w' Q h, h with | [d0], _, h => hp d0 w' Q h
def rd__law_of_value (q_before : PSp) (q_fits : PSp) (q__law_is_number : PSp) : WS :=
  (wSeq2 (wAsg (wLc (wSeq (wTup (wCons (wC (.str "is")) (wCons (wC (.str "under")) (wCons (wC (.str "over")) wNil))))) (wName 6) wYes (wCall q_fits (wCons (wTup (wCons (wVar 6) (wCons (wVar 1) (wCons (wVar 2) wNil)))) (wCons (wVar 0) wNil))) [6]) (wName 3)) (wSeq2 (wAsg (wAndV (wOp (dInX false) (wVar 1) (wVar 0)) (wOp (dEq) (wCall q__law_is_number (wCons (wOp dIxX (wVar 0) (wVar 1)) wNil)) (wCall q__law_is_number (wCons (wVar 2) wNil)))) (wName 4)) (wSeq2 (wIf (wOrT (wTest (wOp (dNe) (wBM isLs mCount (wVar 3) (wCons (wC (.bl true)) wNil)) (wCB cInt (wCons (wVar 4) wNil)))) (wTest (wOp (dNe) (wCall q_fits (wCons (wTup (wCons (wC (.str "has")) (wCons (wVar 1) wNil))) (wCons (wVar 0) wNil))) (wOp (dInX false) (wVar 1) (wVar 0))))) (wRet (wC (.bl false))) wNext) (wSeq2 (wIf (wNotT (wTest (wVar 4))) (wRet (wC (.bl true))) wNext) (wSeq2 (wAsg (wOp dIxX (wVar 0) (wVar 1)) (wName 5)) (wRet (wOp (dEq) (wVar 3) (wLst (wCons (wOp (dEq) (wVar 5) (wVar 2)) (wCons (wCall q_before (wCons (wVar 5) (wCons (wVar 2) wNil))) (wCons (wCall q_before (wCons (wVar 2) (wCons (wVar 5) wNil))) wNil)))))))))))
theorem dv__law_of_value {q_before q_fits q__law_is_number : PSp} {k_before k_fits k__law_is_number k : Nat} (T : Tx K mg c0) (F_before : FD P w K mg base "before" k_before q_before) (l_before : k_before ≤ k) (F_fits : FD P w K mg base "fits" k_fits q_fits) (l_fits : k_fits ≤ k) (F__law_is_number : FD P w K mg base "_law_is_number" k__law_is_number q__law_is_number) (l__law_is_number : k__law_is_number ≤ k) : ∀ (f : Addr) (cdv : Value) (A : Around) (outer : List Env) (s : Shared) (H : Hp) (E : XK), Room k (A.deeper (PyProof.Rows.envOfC "_law_of_value" (defScope s__law_of_value) s.heap.objs.size f cdv)) →
    DSs (cxOf CX0 P w K mg base n__law_of_value "_law_of_value" (defScope s__law_of_value) f cdv A outer s H E).nox (defBody s__law_of_value) (rd__law_of_value q_before q_fits q__law_is_number) := fun f cdv A outer s H E hr =>
  (ds_cons (ds_setLc (i := 3) (own := [("_law_word_here", 6)]) rfl sc__law_of_value.nd rfl rfl (sw_true rfl rfl rfl (by decide +kernel)) (di_val (de_tup (da_cons de_str (da_cons de_str (da_cons de_str da_nil))))) (blkOk_by (N := n__law_of_value) (sc := defScope s__law_of_value) (by decide +kernel)) (fun _ _ _ _ _ => (dgw_name (i := 6) sc__law_of_value.nd rfl (by first | exact Or.inl rfl | exact Or.inr rfl) (by decide))) (fun _ _ _ _ _ => dts_nil) (fun _ _ _ _ _ => (de_call F_fits (hr.mono l_fits) (by rfl) (da_cons (de_tup (da_cons (de_var 6) (da_cons (de_var 1) (da_cons (de_var 2) da_nil)))) (da_cons (de_var 0) da_nil))))) (ds_cons (ds_asg (de_and (de_cm (cm_inX hr.units) (de_var 1) (de_var 0) (by rfl)) (de_one (de_cm (cm_eq hr.units) (de_call F__law_is_number (hr.mono l__law_is_number) (by rfl) (da_cons (de_ixX hr.units (de_var 0) (de_var 1)) da_nil)) (de_call F__law_is_number (hr.mono l__law_is_number) (by rfl) (da_cons (de_var 2) da_nil)) (nomark _)))) (dg_name (i := 4) sc__law_of_value.nd rfl (by first | exact Or.inl rfl | exact Or.inr rfl))) (ds_cons (ds_if (dt_w (dw_or (dt_cm (cm_ne hr.units) (de_m (me_count hr.units) (de_var 3) (da_cons de_bl da_nil)) (de_callTy (ca_int) (by rfl) T.z_int (by decide +kernel) (da_cons (de_var 4) da_nil)) (nomark _)) (dw_or1 (dt_cm (cm_ne hr.units) (de_call F_fits (hr.mono l_fits) (by rfl) (da_cons (de_tup (da_cons de_str (da_cons (de_var 1) da_nil))) (da_cons (de_var 0) da_nil))) (de_cm (cm_inX hr.units) (de_var 1) (de_var 0) (by rfl)) (nomark _))))) (ds_one (ds_ret de_bl)) ds_nil) (ds_cons (ds_if (dt_not (dt_val (de_var 4))) (ds_one (ds_ret de_bl)) ds_nil) (ds_cons (ds_asg (de_ixX hr.units (de_var 0) (de_var 1)) (dg_name (i := 5) sc__law_of_value.nd rfl (by first | exact Or.inl rfl | exact Or.inr rfl))) (ds_one (ds_ret (de_cm (cm_eq hr.units) (de_var 3) (de_lst (da_cons (de_cm (cm_eq hr.units) (de_var 5) (de_var 2) (nomark _)) (da_cons (de_call F_before (hr.mono l_before) (by rfl) (da_cons (de_var 5) (da_cons (de_var 2) da_nil))) (da_cons (de_call F_before (hr.mono l_before) (by rfl) (da_cons (de_var 2) (da_cons (de_var 5) da_nil))) da_nil)))) (nomark _)))))))))
theorem fd__law_of_value {q_before q_fits q__law_is_number : PSp} {k_before k_fits k__law_is_number k : Nat} {p : PSp} (T : Tx K mg c0) (F_before : FD P w K mg base "before" k_before q_before) (l_before : k_before ≤ k) (F_fits : FD P w K mg base "fits" k_fits q_fits) (l_fits : k_fits ≤ k) (F__law_is_number : FD P w K mg base "_law_is_number" k__law_is_number q__law_is_number) (l__law_is_number : k__law_is_number ≤ k) (len : ∀ ds w Q, p ds w Q → ds.length = 3) (hp : ∀ (d0 d1 d2 : PV) (w' : Wd) (Q : WQ), p [d0, d1, d2] w' Q → rd__law_of_value q_before q_fits q__law_is_number { nx := fun _ w2 => Q .non w2, rt := Q } [some d0, some d1, some d2, none, none, none, none] w') : FD P w K mg base "_law_of_value" (k + 1) p :=
  fd_of T.f__law_of_value sc__law_of_value (dv__law_of_value T F_before l_before F_fits l_fits F__law_is_number l__law_is_number) len fun ds w' Q h => match ds, len ds w' Q h, h with | [d0, d1, d2], _, h => hp d0 d1 d2 w' Q h
def rd__law_joined : WS :=
  (wSeq2 (wAsg (wIxC 0 (wVar 1)) (wName 2)) (wSeq2 (wFor (wEnumerate (wCons (wSl (wVar 1) (wPart (wC (.int 1))) wNo) wNil)) (wgTup 2 (wgCons (wName 3) (wgCons (wName 4) wgNil))) (wAsg (wOp dIx (wLst (wCons (wTup (wCons (wVar 0) (wCons (wVar 2) (wCons (wVar 4) wNil)))) (wCons (wTup (wCons (wVar 0) (wCons (wVar 4) (wCons (wVar 2) wNil)))) wNil))) (wOp dMod (wVar 3) (wC (.int 2)))) (wName 2))) (wRet (wVar 2))))
theorem dv__law_joined {k : Nat} (T : Tx K mg c0) : ∀ (f : Addr) (cdv : Value) (A : Around) (outer : List Env) (s : Shared) (H : Hp) (E : XK), Room k (A.deeper (PyProof.Rows.envOfC "_law_joined" (defScope s__law_joined) s.heap.objs.size f cdv)) →
    DSs (cxOf CX0 P w K mg base n__law_joined "_law_joined" (defScope s__law_joined) f cdv A outer s H E).nox (defBody s__law_joined) (rd__law_joined) := fun f cdv A outer s H E hr =>
  (ds_cons (ds_asg (de_ixc 0 (de_var 1)) (dg_name (i := 2) sc__law_joined.nd rfl (by first | exact Or.inl rfl | exact Or.inr rfl))) (ds_cons (ds_for PassesOwn.never rfl (di_enumerate (by rfl) T.z_enumerate (da_cons (de_slice (de_var 1) (do_some de_int) do_none) da_nil)) (dg_tup rfl (dgs_cons (dg_name (i := 3) sc__law_joined.nd rfl (by first | exact Or.inl rfl | exact Or.inr rfl)) (dgs_cons (dg_name (i := 4) sc__law_joined.nd rfl (by first | exact Or.inl rfl | exact Or.inr rfl)) dgs_nil))) (ds_one (ds_asg (de_ix (de_lst (da_cons (de_tup (da_cons (de_var 0) (da_cons (de_var 2) (da_cons (de_var 4) da_nil)))) (da_cons (de_tup (da_cons (de_var 0) (da_cons (de_var 4) (da_cons (de_var 2) da_nil)))) da_nil))) (de_mod (de_var 3) de_int)) (dg_name (i := 2) sc__law_joined.nd rfl (by first | exact Or.inl rfl | exact Or.inr rfl))))) (ds_one (ds_ret (de_var 2)))))
theorem fd__law_joined {k : Nat} {p : PSp} (T : Tx K mg c0) (len : ∀ ds w Q, p ds w Q → ds.length = 2) (hp : ∀ (d0 d1 : PV) (w' : Wd) (Q : WQ), p [d0, d1] w' Q → rd__law_joined { nx := fun _ w2 => Q .non w2, rt := Q } [some d0, some d1, none, none, none] w') : FD P w K mg base "_law_joined" (k + 1) p :=
  fd_of T.f__law_joined sc__law_joined (dv__law_joined T) len fun ds w' Q h => match ds, len ds w' Q h, h with | [d0, d1], _, h => hp d0 d1 w' Q h
def rd_law (q_is_test : PSp) (q__law_joined : PSp) (q_fits : PSp) (q__law_draw : PSp) (q__law_test : PSp) (q_fields_told : PSp) (q__law_of_value : PSp) (q__law_value : PSp) (q__law_word : PSp) (q__law_fields : PSp) (q__law_hand : PSp) : WS :=
  (wSeq2 (wAsg (wCall q__law_hand (wCons (wVar 0) wNil)) (wName 1)) (wSeq2 (wFor (wRng1 (wCons (wC (.int 8)) wNil)) (wName 2) (wSeq2 (wAsg (wCall q__law_fields (wCons (wVar 1) (wCons (wC (.int 9)) wNil))) (wName 3)) (wSeq2 (wAsg (wOp dIx (wOp dAdd (wCB cSortD (wCons (wVar 3) wNil)) (wLst (wCons (wCall q__law_word (wCons (wVar 1) wNil)) wNil))) (wCall q__law_draw (wCons (wVar 1) (wCons (wOp dAdd (wCB cLenD (wCons (wVar 3) wNil)) (wC (.int 1))) wNil)))) (wName 4)) (wSeq2 (wAsg (wOp dIx (wLst (wCons (wCall q__law_value (wCons (wVar 1) wNil)) (wCons (wGetK (wVar 3) (wVar 4) (wC (.int 0))) wNil))) (wCall q__law_draw (wCons (wVar 1) (wCons (wC (.int 2)) wNil)))) (wName 5)) (wSeq2 (wIf (wNotT (wTest (wCall q__law_of_value (wCons (wVar 3) (wCons (wVar 4) (wCons (wVar 5) wNil)))))) (wRet (wC (.bl false))) wNext) (wSeq2 (wPar 6 7 (wCons (wCall q__law_test (wCons (wVar 1) (wCons (wC (.int 3)) wNil))) (wCons (wCall q__law_test (wCons (wVar 1) (wCons (wC (.int 3)) wNil))) wNil))) (wSeq2 (wAsg (wCall q_fields_told (wCons (wVar 3) wNil)) (wName 8)) (wSeq2 (wAsg (wLc (wSeq (wTup (wCons (wVar 6) (wCons (wVar 7) wNil)))) (wName 14) wYes (wCall q_fits (wCons (wTup (wCons (wC (.str "not")) (wCons (wVar 14) wNil))) (wCons (wVar 8) wNil))) [14]) (wName 9)) (wSeq2 (wIf (wTest (wOp (dNe) (wVar 9) (wLst (wCons (wNotV (wCall q_fits (wCons (wVar 6) (wCons (wVar 3) wNil)))) (wCons (wNotV (wCall q_fits (wCons (wVar 7) (wCons (wVar 3) wNil)))) wNil))))) (wRet (wC (.bl false))) wNext) (wSeq2 (wPar 10 11 (wCons (wTup (wCons (wC (.str "not")) (wCons (wVar 6) wNil))) (wCons (wTup (wCons (wC (.str "not")) (wCons (wVar 7) wNil))) wNil))) (wSeq2 (wIf (wTest (wOp (dNe) (wCall q_fits (wCons (wTup (wCons (wC (.str "not")) (wCons (wTup (wCons (wC (.str "both")) (wCons (wVar 6) (wCons (wVar 7) wNil)))) wNil))) (wCons (wVar 3) wNil))) (wCall q_fits (wCons (wTup (wCons (wC (.str "either")) (wCons (wVar 10) (wCons (wVar 11) wNil)))) (wCons (wVar 3) wNil))))) (wRet (wC (.bl false))) wNext) (wSeq2 (wIf (wTest (wOp (dNe) (wCall q_fits (wCons (wTup (wCons (wC (.str "not")) (wCons (wTup (wCons (wC (.str "either")) (wCons (wVar 6) (wCons (wVar 7) wNil)))) wNil))) (wCons (wVar 3) wNil))) (wCall q_fits (wCons (wTup (wCons (wC (.str "both")) (wCons (wVar 10) (wCons (wVar 11) wNil)))) (wCons (wVar 3) wNil))))) (wRet (wC (.bl false))) wNext) (wSeq2 (wAsg (wLc (wRng1 (wCons (wOp dAdd (wC (.int 1)) (wCall q__law_draw (wCons (wVar 1) (wCons (wC (.int 7)) wNil)))) wNil)) (wName 15) wYes (wCall q__law_test (wCons (wVar 1) (wCons (wC (.int 1)) wNil))) [15]) (wName 12)) (wSeq2 (wAsg (wLc (wSeq (wVar 12)) (wName 14) wYes (wCall q_fits (wCons (wVar 14) (wCons (wVar 3) wNil))) [14]) (wName 13)) (wSeq2 (wIf (wTest (wOp (dNe) (wCall q_fits (wCons (wCall q__law_joined (wCons (wC (.str "both")) (wCons (wVar 12) wNil))) (wCons (wVar 8) wNil))) (wOp (dIn true) (wC (.bl false)) (wVar 13)))) (wRet (wC (.bl false))) wNext) (wSeq2 (wIf (wTest (wOp (dNe) (wCall q_fits (wCons (wCall q__law_joined (wCons (wC (.str "either")) (wCons (wVar 12) wNil))) (wCons (wVar 8) wNil))) (wOp (dIn false) (wC (.bl true)) (wVar 13)))) (wRet (wC (.bl false))) wNext) (wIf (wOrT (wNotT (wTest (wCall q_is_test (wCons (wCall q__law_joined (wCons (wC (.str "both")) (wCons (wVar 12) wNil))) wNil)))) (wNotT (wTest (wCall q_is_test (wCons (wTup (wCons (wC (.str "not")) (wCons (wVar 6) wNil))) wNil))))) (wRet (wC (.bl false))) wNext))))))))))))))))) (wRet (wC (.bl true)))))
theorem dv_law {q_is_test q__law_joined q_fits q__law_draw q__law_test q_fields_told q__law_of_value q__law_value q__law_word q__law_fields q__law_hand : PSp} {k_is_test k__law_joined k_fits k__law_draw k__law_test k_fields_told k__law_of_value k__law_value k__law_word k__law_fields k__law_hand k : Nat} (T : Tx K mg c0) (F_is_test : FD P w K mg base "is_test" k_is_test q_is_test) (l_is_test : k_is_test ≤ k) (F__law_joined : FD P w K mg base "_law_joined" k__law_joined q__law_joined) (l__law_joined : k__law_joined ≤ k) (F_fits : FD P w K mg base "fits" k_fits q_fits) (l_fits : k_fits ≤ k) (F__law_draw : FD P w K mg base "_law_draw" k__law_draw q__law_draw) (l__law_draw : k__law_draw ≤ k) (F__law_test : FD P w K mg base "_law_test" k__law_test q__law_test) (l__law_test : k__law_test ≤ k) (F_fields_told : FD P w K mg base "fields_told" k_fields_told q_fields_told) (l_fields_told : k_fields_told ≤ k) (F__law_of_value : FD P w K mg base "_law_of_value" k__law_of_value q__law_of_value) (l__law_of_value : k__law_of_value ≤ k) (F__law_value : FD P w K mg base "_law_value" k__law_value q__law_value) (l__law_value : k__law_value ≤ k) (F__law_word : FD P w K mg base "_law_word" k__law_word q__law_word) (l__law_word : k__law_word ≤ k) (F__law_fields : FD P w K mg base "_law_fields" k__law_fields q__law_fields) (l__law_fields : k__law_fields ≤ k) (F__law_hand : FD P w K mg base "_law_hand" k__law_hand q__law_hand) (l__law_hand : k__law_hand ≤ k) : ∀ (f : Addr) (cdv : Value) (A : Around) (outer : List Env) (s : Shared) (H : Hp) (E : XK), Room k (A.deeper (PyProof.Rows.envOfC "law" (defScope s_law) s.heap.objs.size f cdv)) →
    DSs (cxOf CX0 P w K mg base n_law "law" (defScope s_law) f cdv A outer s H E).nox (defBody s_law) (rd_law q_is_test q__law_joined q_fits q__law_draw q__law_test q_fields_told q__law_of_value q__law_value q__law_word q__law_fields q__law_hand) := fun f cdv A outer s H E hr =>
  (ds_cons (ds_asg (de_call F__law_hand (hr.mono l__law_hand) (by rfl) (da_cons (de_var 0) da_nil)) (dg_name (i := 1) sc_law.nd rfl (by first | exact Or.inl rfl | exact Or.inr rfl))) (ds_cons (ds_for PassesOwn.never rfl (di_range1 (by rfl) T.z_range (da_cons de_int da_nil)) (dg_name (i := 2) sc_law.nd rfl (by first | exact Or.inl rfl | exact Or.inr rfl)) (ds_cons (ds_asg (de_call F__law_fields (hr.mono l__law_fields) (by rfl) (da_cons (de_var 1) (da_cons de_int da_nil))) (dg_name (i := 3) sc_law.nd rfl (by first | exact Or.inl rfl | exact Or.inr rfl))) (ds_cons (ds_asg (de_ix (de_add (de_callB (ca_sortD rfl) (by rfl) T.z_sorted (by decide +kernel) (da_cons (de_var 3) da_nil)) (de_lst (da_cons (de_call F__law_word (hr.mono l__law_word) (by rfl) (da_cons (de_var 1) da_nil)) da_nil))) (de_call F__law_draw (hr.mono l__law_draw) (by rfl) (da_cons (de_var 1) (da_cons (de_add (de_callB ca_lenD (by rfl) T.z_len (by decide +kernel) (da_cons (de_var 3) da_nil)) de_int) da_nil)))) (dg_name (i := 4) sc_law.nd rfl (by first | exact Or.inl rfl | exact Or.inr rfl))) (ds_cons (ds_asg (de_ix (de_lst (da_cons (de_call F__law_value (hr.mono l__law_value) (by rfl) (da_cons (de_var 1) da_nil)) (da_cons (de_getK hr.units (de_var 3) (de_var 4) de_int ⟨rfl, rfl, rfl, rfl⟩) da_nil))) (de_call F__law_draw (hr.mono l__law_draw) (by rfl) (da_cons (de_var 1) (da_cons de_int da_nil)))) (dg_name (i := 5) sc_law.nd rfl (by first | exact Or.inl rfl | exact Or.inr rfl))) (ds_cons (ds_if (dt_not (dt_val (de_call F__law_of_value (hr.mono l__law_of_value) (by rfl) (da_cons (de_var 3) (da_cons (de_var 4) (da_cons (de_var 5) da_nil)))))) (ds_one (ds_ret de_bl)) ds_nil) (ds_cons (ds_par (i := 6) (j := 7) rfl sc_law.nd rfl rfl (by decide) rfl rfl (da_cons (de_call F__law_test (hr.mono l__law_test) (by rfl) (da_cons (de_var 1) (da_cons de_int da_nil))) (da_cons (de_call F__law_test (hr.mono l__law_test) (by rfl) (da_cons (de_var 1) (da_cons de_int da_nil))) da_nil))) (ds_cons (ds_asg (de_call F_fields_told (hr.mono l_fields_told) (by rfl) (da_cons (de_var 3) da_nil)) (dg_name (i := 8) sc_law.nd rfl (by first | exact Or.inl rfl | exact Or.inr rfl))) (ds_cons (ds_setLc (i := 9) (own := [("_law_test_here", 14)]) rfl sc_law.nd rfl rfl (sw_true rfl rfl rfl (by decide +kernel)) (di_val (de_tup (da_cons (de_var 6) (da_cons (de_var 7) da_nil)))) (blkOk_by (N := n_law) (sc := defScope s_law) (by decide +kernel)) (fun _ _ _ _ _ => (dgw_name (i := 14) sc_law.nd rfl (by first | exact Or.inl rfl | exact Or.inr rfl) (by decide))) (fun _ _ _ _ _ => dts_nil) (fun _ _ _ _ _ => (de_call F_fits (hr.mono l_fits) (by rfl) (da_cons (de_tup (da_cons de_str (da_cons (de_var 14) da_nil))) (da_cons (de_var 8) da_nil))))) (ds_cons (ds_if (dt_cm (cm_ne hr.units) (de_var 9) (de_lst (da_cons (de_not (de_call F_fits (hr.mono l_fits) (by rfl) (da_cons (de_var 6) (da_cons (de_var 3) da_nil)))) (da_cons (de_not (de_call F_fits (hr.mono l_fits) (by rfl) (da_cons (de_var 7) (da_cons (de_var 3) da_nil)))) da_nil))) (nomark _)) (ds_one (ds_ret de_bl)) ds_nil) (ds_cons (ds_par (i := 10) (j := 11) rfl sc_law.nd rfl rfl (by decide) rfl rfl (da_cons (de_tup (da_cons de_str (da_cons (de_var 6) da_nil))) (da_cons (de_tup (da_cons de_str (da_cons (de_var 7) da_nil))) da_nil))) (ds_cons (ds_if (dt_cm (cm_ne hr.units) (de_call F_fits (hr.mono l_fits) (by rfl) (da_cons (de_tup (da_cons de_str (da_cons (de_tup (da_cons de_str (da_cons (de_var 6) (da_cons (de_var 7) da_nil)))) da_nil))) (da_cons (de_var 3) da_nil))) (de_call F_fits (hr.mono l_fits) (by rfl) (da_cons (de_tup (da_cons de_str (da_cons (de_var 10) (da_cons (de_var 11) da_nil)))) (da_cons (de_var 3) da_nil))) (nomark _)) (ds_one (ds_ret de_bl)) ds_nil) (ds_cons (ds_if (dt_cm (cm_ne hr.units) (de_call F_fits (hr.mono l_fits) (by rfl) (da_cons (de_tup (da_cons de_str (da_cons (de_tup (da_cons de_str (da_cons (de_var 6) (da_cons (de_var 7) da_nil)))) da_nil))) (da_cons (de_var 3) da_nil))) (de_call F_fits (hr.mono l_fits) (by rfl) (da_cons (de_tup (da_cons de_str (da_cons (de_var 10) (da_cons (de_var 11) da_nil)))) (da_cons (de_var 3) da_nil))) (nomark _)) (ds_one (ds_ret de_bl)) ds_nil) (ds_cons (ds_setLc (i := 12) (own := [("_law_k", 15)]) rfl sc_law.nd rfl rfl (sw_true rfl rfl rfl (by decide +kernel)) (di_range1 (by rfl) T.z_range (da_cons (de_add de_int (de_call F__law_draw (hr.mono l__law_draw) (by rfl) (da_cons (de_var 1) (da_cons de_int da_nil)))) da_nil)) (blkOk_by (N := n_law) (sc := defScope s_law) (by decide +kernel)) (fun _ _ _ _ _ => (dgw_name (i := 15) sc_law.nd rfl (by first | exact Or.inl rfl | exact Or.inr rfl) (by decide))) (fun _ _ _ _ _ => dts_nil) (fun _ _ _ _ _ => (de_call F__law_test (hr.mono l__law_test) (by rfl) (da_cons (de_var 1) (da_cons de_int da_nil))))) (ds_cons (ds_setLc (i := 13) (own := [("_law_test_here", 14)]) rfl sc_law.nd rfl rfl (sw_true rfl rfl rfl (by decide +kernel)) (di_val (de_var 12)) (blkOk_by (N := n_law) (sc := defScope s_law) (by decide +kernel)) (fun _ _ _ _ _ => (dgw_name (i := 14) sc_law.nd rfl (by first | exact Or.inl rfl | exact Or.inr rfl) (by decide))) (fun _ _ _ _ _ => dts_nil) (fun _ _ _ _ _ => (de_call F_fits (hr.mono l_fits) (by rfl) (da_cons (de_var 14) (da_cons (de_var 3) da_nil))))) (ds_cons (ds_if (dt_cm (cm_ne hr.units) (de_call F_fits (hr.mono l_fits) (by rfl) (da_cons (de_call F__law_joined (hr.mono l__law_joined) (by rfl) (da_cons de_str (da_cons (de_var 12) da_nil))) (da_cons (de_var 8) da_nil))) (de_cm (cm_notin hr.units) de_bl (de_var 13) (by rfl)) (nomark _)) (ds_one (ds_ret de_bl)) ds_nil) (ds_cons (ds_if (dt_cm (cm_ne hr.units) (de_call F_fits (hr.mono l_fits) (by rfl) (da_cons (de_call F__law_joined (hr.mono l__law_joined) (by rfl) (da_cons de_str (da_cons (de_var 12) da_nil))) (da_cons (de_var 8) da_nil))) (de_cm (cm_in hr.units) de_bl (de_var 13) (by rfl)) (nomark _)) (ds_one (ds_ret de_bl)) ds_nil) (ds_one (ds_if (dt_w (dw_or (dt_not (dt_val (de_call F_is_test (hr.mono l_is_test) (by rfl) (da_cons (de_call F__law_joined (hr.mono l__law_joined) (by rfl) (da_cons de_str (da_cons (de_var 12) da_nil))) da_nil)))) (dw_or1 (dt_not (dt_val (de_call F_is_test (hr.mono l_is_test) (by rfl) (da_cons (de_tup (da_cons de_str (da_cons (de_var 6) da_nil))) da_nil))))))) (ds_one (ds_ret de_bl)) ds_nil)))))))))))))))))) (ds_one (ds_ret de_bl))))
theorem fn_law {q_is_test q__law_joined q_fits q__law_draw q__law_test q_fields_told q__law_of_value q__law_value q__law_word q__law_fields q__law_hand : PSp} {k_is_test k__law_joined k_fits k__law_draw k__law_test k_fields_told k__law_of_value k__law_value k__law_word k__law_fields k__law_hand k : Nat} {p : PSp} {fa : Addr} {fd : FuncData} (T : Tx K mg c0) (F : Fun K "law" "law" s_law fa fd) (F_is_test : FD P w K mg base "is_test" k_is_test q_is_test) (l_is_test : k_is_test ≤ k) (F__law_joined : FD P w K mg base "_law_joined" k__law_joined q__law_joined) (l__law_joined : k__law_joined ≤ k) (F_fits : FD P w K mg base "fits" k_fits q_fits) (l_fits : k_fits ≤ k) (F__law_draw : FD P w K mg base "_law_draw" k__law_draw q__law_draw) (l__law_draw : k__law_draw ≤ k) (F__law_test : FD P w K mg base "_law_test" k__law_test q__law_test) (l__law_test : k__law_test ≤ k) (F_fields_told : FD P w K mg base "fields_told" k_fields_told q_fields_told) (l_fields_told : k_fields_told ≤ k) (F__law_of_value : FD P w K mg base "_law_of_value" k__law_of_value q__law_of_value) (l__law_of_value : k__law_of_value ≤ k) (F__law_value : FD P w K mg base "_law_value" k__law_value q__law_value) (l__law_value : k__law_value ≤ k) (F__law_word : FD P w K mg base "_law_word" k__law_word q__law_word) (l__law_word : k__law_word ≤ k) (F__law_fields : FD P w K mg base "_law_fields" k__law_fields q__law_fields) (l__law_fields : k__law_fields ≤ k) (F__law_hand : FD P w K mg base "_law_hand" k__law_hand q__law_hand) (l__law_hand : k__law_hand ≤ k) (len : ∀ ds w Q, p ds w Q → ds.length = 1) (hp : ∀ (d0 : PV) (w' : Wd) (Q : WQ), p [d0] w' Q → rd_law q_is_test q__law_joined q_fits q__law_draw q__law_test q_fields_told q__law_of_value q__law_value q__law_word q__law_fields q__law_hand { nx := fun _ w2 => Q .non w2, rt := Q } [some d0, none, none, none, none, none, none, none, none, none, none, none, none, none, none, none] w') : FnOk P w K mg base CX0 (k + 1) fa fd ["_law_script"] (upSp ⟨P, w, K⟩ p) :=
  fn_of_law F sc_law (dv_law T F_is_test l_is_test F__law_joined l__law_joined F_fits l_fits F__law_draw l__law_draw F__law_test l__law_test F_fields_told l_fields_told F__law_of_value l__law_of_value F__law_value l__law_value F__law_word l__law_word F__law_fields l__law_fields F__law_hand l__law_hand) len fun ds w' Q h => match ds, len ds w' Q h, h with | [d0], _, h => hp d0 w' Q h
end
end Lw

namespace Lw
open PySem L2 Pd Vy Fl Ft
local macro_rules | `(tactic| walk_at "call") => `(tactic| fail "none")
local macro_rules | `(tactic| walk_at "go") => `(tactic| (repeat (first | with_reducible refine Stp.go ?_ | dsimp only [List.set] | (walk_at "call") | with_reducible refine x_rixr (by first | assumption | exact wset_same) ?_ | with_reducible refine x_lenR (by first | assumption | exact wset_same) ?_ | ((with_reducible refine x_rsubc (by first | assumption | exact wset_same) ?_ ?_); (first | (focus (simp; done)) | (focus (simp; omega)))) | ((with_reducible refine x_gtup ?_ ?_); (first | rfl | (focus (simp; done)))) | ((with_reducible refine x_cI ?_ ?_); (first | exact True.intro | assumption)) | ((with_reducible refine x_cI2 ?_ ?_); (first | exact True.intro | assumption)) | ((with_reducible refine x_addL ?_ ?_); (first | (focus (show _ ≤ sizeLine; rw [sizeLine_eq]; simp; done)) | omega)) | ((with_reducible refine x_addT ?_ ?_); (first | (focus (show _ ≤ sizeLine; rw [sizeLine_eq]; simp; done)) | omega)) | ((with_reducible refine x_addS ?_ ?_); (first | (focus (show _ ≤ sizeLine; rw [sizeLine_eq]; simp; done)) | omega)) | ((with_reducible refine x_mod ?_ ?_); (first | omega | assumption)) | ((with_reducible refine x_fdiv ?_ ?_ ?_); (first | omega | assumption); (first | omega | assumption)) | ((with_reducible refine x_mul ?_ ?_); (first | (left; omega) | (right; omega))) | ((with_reducible refine x_pow ?_ ?_ ?_ ?_); decide; decide; decide; (try simp only [Int.reduceToNat, Int.reducePow])) | ((with_reducible refine x_and ?_ ?_); (first | (focus (show _ ≤ sizeLine; rw [sizeLine_eq]; simp; done)) | omega)) | ((with_reducible refine x_rrng1 ?_ ?_ ?_); omega; omega) | ((with_reducible refine x_iteT ?_ ?_); (first | omega | assumption)) | ((with_reducible refine x_iteF ?_ ?_); (first | omega | assumption)) | ((with_reducible refine x_iteNT ?_ ?_); (first | omega | assumption)) | ((with_reducible refine x_iteNF ?_ ?_); (first | omega | assumption)) | with_reducible refine L2.iteT ?_ | with_reducible refine L2.iteF ?_ | simp only [wset_wset] | ((with_reducible refine x_iteV ?_ ?_); focus (first | rfl | assumption)) | ((with_reducible refine x_iteW ?_ ?_); focus (first | rfl | assumption)) | ((with_reducible refine x_iteNV ?_ ?_); focus (first | rfl | assumption)) | ((with_reducible refine x_iteNW ?_ ?_); focus (first | rfl | assumption)) | ((with_reducible refine x_iteV ?_ ?_); focus (decide +kernel)) | ((with_reducible refine x_iteW ?_ ?_); focus (decide +kernel)) | ((with_reducible refine x_iteNV ?_ ?_); focus (decide +kernel)) | ((with_reducible refine x_iteNW ?_ ?_); focus (decide +kernel)))))
/-- lengths of texts are small -/
def SzOk : PV → Prop
  | .str s => s.length ≤ sizeLine
  | _ => True
def qOf (f : PV → Bool) : PSp := fun ds w Q => ∃ d, ds = [d] ∧ d.pl = true ∧ SzOk d ∧ Q (.bl (f d)) w
def isNum : PV → Bool
  | .int _ => true
  | _ => false
def isStr : PV → Bool
  | .str _ => true
  | _ => false
def qSays : PSp := fun ds w Q => ∃ a b, ds = [.bl a, .bl b] ∧ Q (.bl (a == b)) w
/-- a hand: its cells, where it stands, what is left of a cell, how often it was asked (and may be asked yet) -/
def HandO (m : MO) (f : Nat) : Prop := ∃ (cs : List Int) (p c n : Int), m = .lst [.lst (cs.map PV.int), .int p, .int c, .int n] ∧ (∀ x ∈ cs, 0 ≤ x) ∧ 0 ≤ p ∧ 0 ≤ c ∧ 0 ≤ n ∧ n + f ≤ 2 ^ 40
def Hand (w : Wd) (a : Addr) (f : Nat) : Prop := ∃ m, w a = some m ∧ HandO m f
theorem Hand.le {w : Wd} {a : Addr} {f g : Nat} (h : Hand w a f) (hg : g ≤ f) : Hand w a g := by
  obtain ⟨m, hm, cs, p, c, n, e, h1, h2, h3, h4, h5⟩ := h
  exact ⟨m, hm, cs, p, c, n, e, h1, h2, h3, h4, by omega⟩
/-- but for a all stands -/
def Frm (a : Addr) (w w' : Wd) : Prop := ∀ b, b ≠ a → w' b = w b
theorem Frm.refl (a : Addr) (w : Wd) : Frm a w w := fun _ _ => rfl
theorem Frm.trans {a : Addr} {w w1 w2 : Wd} (h : Frm a w w1) (h' : Frm a w1 w2) : Frm a w w2 := fun b hb => (h' b hb).trans (h b hb)
theorem Frm.set (a : Addr) (w : Wd) (m : MO) : Frm a w (wset w a m) := fun _ hb => wset_ne hb
def qDraw : PSp := fun ds w Q => ∃ (a : Addr) (m : Int) (f : Nat), ds = [.ref a, .int m] ∧ 0 < m ∧ m < 2 ^ 64 ∧ Hand w a (f + 1) ∧ ∀ (i : Int) w', 0 ≤ i → i < m → Hand w' a f → Frm a w w' → Q (.int i) w'
def qHand : PSp := fun ds w Q => ∃ ns : List Int, ds = [.scr (ns.map PV.int)] ∧ ∀ a m, w a = none → HandO m (2 ^ 39) → Q (.ref a) (wset w a m)
/-- a thing that is drawn, by so many draws -/
def qThing (n : Nat) (p : PV → Bool) : PSp := fun ds w Q => ∃ a f, ds = [.ref a] ∧ Hand w a (f + n) ∧ ∀ d w', p d = true → Hand w' a f → Frm a w w' → Q d w'
theorem mul_a : MulOk "a" 21 := ⟨by decide, fun _ _ => by decide +kernel, fun _ _ => by decide +kernel⟩
theorem okB_pl {d : PV} (h : okB d = true) : d.pl = true := by
  unfold okB at h; simp only [Bool.and_eq_true] at h; exact h.1.1
theorem okB_sz {d : PV} (h : okB d = true) : SzOk d := by
  unfold okB at h; simp only [Bool.and_eq_true] at h
  cases d <;> try exact True.intro
  have z := h.2
  simp only [szB, decide_eq_true_eq] at z
  exact sl_small (by omega)
def okD : Nat → PV → Bool
  | 0, _ => false
  | _ + 1, .str s => decide (s.length ≤ 1000)
  | _ + 1, .int _ => true
  | _ + 1, .bl _ => true
  | _ + 1, .non => true
  | n + 1, .tup ds => decide (ds.length ≤ 8) && ds.all (okD n)
  | n + 1, .lst ds => decide (ds.length ≤ 8) && ds.all (okD n)
  | _ + 1, _ => false
theorem pls_of : ∀ {ds : List PV}, (∀ d ∈ ds, d.pl = true) → PV.pls ds = true
  | [], _ => by simp [PV.pls]
  | d :: r, h => by simp [PV.pls, h d (List.mem_cons_self ..), pls_of fun x hx => h x (List.mem_cons_of_mem _ hx)]
theorem okD_pl : ∀ {n : Nat} {d : PV}, okD n d = true → d.pl = true
  | n + 1, .str _, _ => by simp [PV.pl]
  | n + 1, .int _, _ => by simp [PV.pl]
  | n + 1, .bl _, _ => by simp [PV.pl]
  | n + 1, .non, _ => by simp [PV.pl]
  | n + 1, .tup ds, h => by
    simp only [okD, Bool.and_eq_true, List.all_eq_true] at h
    simp only [PV.pl]; exact pls_of fun d hd => okD_pl (h.2 d hd)
  | n + 1, .lst ds, h => by
    simp only [okD, Bool.and_eq_true, List.all_eq_true] at h
    simp only [PV.pl]; exact pls_of fun d hd => okD_pl (h.2 d hd)
theorem okD_sz {n : Nat} {d : PV} (h : okD n d = true) : SzOk d := by
  cases n with
  | zero => simp [okD] at h
  | succ n =>
    cases d <;> try exact True.intro
    simp only [okD, decide_eq_true_eq] at h
    exact sl_small (by omega)
theorem okD_up : ∀ {n : Nat} {d : PV}, okD n d = true → okD (n + 1) d = true
  | n + 1, .str _, h => h
  | n + 1, .int _, _ => rfl
  | n + 1, .bl _, _ => rfl
  | n + 1, .non, _ => rfl
  | n + 1, .tup ds, h => by
    simp only [okD, Bool.and_eq_true, List.all_eq_true] at h ⊢
    exact ⟨h.1, fun d hd => by have := okD_up (h.2 d hd); simpa only [okD] using this⟩
  | n + 1, .lst ds, h => by
    simp only [okD, Bool.and_eq_true, List.all_eq_true] at h ⊢
    exact ⟨h.1, fun d hd => by have := okD_up (h.2 d hd); simpa only [okD] using this⟩
theorem okD_le {n m : Nat} {d : PV} (h : okD n d = true) (l : n ≤ m) : okD m d = true := by
  induction l with
  | refl => exact h
  | step _ ih => exact okD_up ih
section
variable {P : Program} {w : World} {K : Frag} {mg : Str → Option Value} {base : Heap} {c0 pt : Addr}
theorem hand_set {w' : Wd} {a : Addr} {cs : List Int} {p c n : Int} {f : Nat} (h1 : ∀ x ∈ cs, 0 ≤ x) (h2 : 0 ≤ p) (h3 : 0 ≤ c) (h4 : 0 ≤ n) (h5 : n + f ≤ 2 ^ 40) : Hand (wset w' a (.lst [.lst (cs.map PV.int), .int p, .int c, .int n])) a f :=
  ⟨_, wset_same, cs, p, c, n, rfl, h1, h2, h3, h4, h5⟩
theorem ok_draw (T : Tx K mg c0) : FD P w K mg base "_law_draw" 1 qDraw := fd__law_draw T (by rintro ds w Q ⟨a, b, f, rfl, _⟩; rfl) (by
  rintro d0 d1 w' Q ⟨a, m, f, e, hm, hm2, ⟨mo, hw, cs, p, c, n, rfl, h1, h2, h3, h4, h5⟩, k⟩
  cases e
  have fin : ∀ (i p' c' : Int), 0 ≤ p' → 0 ≤ c' → 0 ≤ i → i < m → Q (.int i) (wset w' a (.lst [.lst (cs.map PV.int), .int p', .int c', .int (n + 1)])) := fun i p' c' q1 q2 q3 q4 =>
    k i _ q3 q4 (hand_set h1 q1 q2 (by omega) (by omega)) (Frm.set _ _ _)
  have md : ∀ x : Int, 0 ≤ x % m ∧ x % m < m := fun x => ⟨Int.emod_nonneg _ (by omega), Int.emod_lt_of_pos _ hm⟩
  have dv : ∀ x : Int, 0 ≤ x → 0 ≤ x / m := fun x hx => Int.ediv_nonneg hx (by omega)
  unfold rd__law_draw
  walk_at "go"
  refine x_ite (fun hc => ?_) (fun hc => ?_)
  · walk_at "go"
    refine x_ite (fun hl => ?_) (fun hl => ?_)
    · walk_at "go"
      have hl' : 0 < (cs.length : Int) := by simpa using hl
      obtain ⟨d, hd, hm'⟩ := atI_lt (xs := cs.map PV.int) (i := p % ((cs.map PV.int).length : Int)) (Int.emod_nonneg _ (by simp only [List.length_map]; omega)) (Int.emod_lt_of_pos _ (by simp only [List.length_map]; omega))
      obtain ⟨x, hx, rfl⟩ := List.mem_map.mp hm'
      have hx0 := h1 x hx
      refine x_ixL hd ?_
      walk_at "go"
      refine x_ite (fun h6 => ?_) (fun h6 => ?_)
      · walk_at "go"
        exact fin _ _ _ (by omega) h3 (md _).1 (md _).2
      · walk_at "go"
        refine x_ite (fun h7 => ?_) (fun h7 => ?_)
        · walk_at "go"
          exact fin _ _ _ (by omega) h3 (md _).1 (md _).2
        · walk_at "go"
          exact fin _ _ _ (by omega) (dv _ hx0) (md _).1 (md _).2
    · walk_at "go"
      exact fin _ _ _ (by omega) h3 (md _).1 (md _).2
  · walk_at "go"
    exact fin _ _ _ h2 (dv _ h3) (md _).1 (md _).2)
theorem ok_hand (T : Tx K mg c0) : FD P w K mg base "_law_hand" 1 qHand := fd__law_hand T (by rintro ds w Q ⟨ns, rfl, _⟩; rfl) (by
  rintro d0 w' Q ⟨ns, e, h⟩
  cases e
  unfold rd__law_hand
  walk_at "go"
  have hl : (cutD (ns.map PV.int) none (some 63)).length ≤ 63 := cutD_le _ 63
  refine x_and (by rw [sizeLine_eq]; omega) ?_
  rw [cutD_map]
  refine comp_mapG PV.int (fun n : Int => PV.int (if n < 0 then -n else n)) _ [] (fun n _ Q' q => ?_) ?_
  · dsimp only [wipeD, List.set]
    walk_at "go"
    exact q
  · rw [List.nil_append]
    walk_at "go"
    intro p hp
    refine h p _ hp ⟨(cutD ns none (some 63)).map (fun n => if n < 0 then -n else n), 0, 0, 0, ?_, ?_, by omega, by omega, by omega, by omega⟩
    · rw [List.map_map]; rfl
    · intro x hx
      obtain ⟨n, _, rfl⟩ := List.mem_map.mp hx
      split <;> omega)
theorem sum_ones : ∀ zs : List Str, (∀ y ∈ zs, y.length = 1) → (zs.map (·.length)).sum = zs.length := by
  intro zs
  induction zs with
  | nil => intro _; rfl
  | cons y r ih => intro q; rw [List.map_cons, List.sum_cons, ih fun x hx => q x (List.mem_cons_of_mem _ hx), q y List.mem_cons_self, List.length_cons]; omega
theorem join_name {cs : List Nat} (h1 : 1 ≤ cs.length) (h8 : cs.length ≤ 8) (hl : ∀ c ∈ cs, isLow c = true) : nameS (Txt.join "" (cs.map fun c => (⟨#[c]⟩ : Str))) = true := by
  have hs : (Txt.join "" (cs.map fun c => (⟨#[c]⟩ : Str))).cps.toList = cs := by
    rw [join_signs, List.map_map]
    clear h1 h8 hl
    induction cs with
    | nil => rfl
    | cons c r ih => rw [List.map_cons, List.flatten_cons, ih]; rfl
  have hn : (Txt.join "" (cs.map fun c => (⟨#[c]⟩ : Str))).length = cs.length := by
    rw [join_len (by intro y hy; obtain ⟨c, _, rfl⟩ := List.mem_map.mp hy; rfl), List.length_map]
  unfold nameS
  rw [hs, hn, decide_eq_true h1, decide_eq_true h8]
  simpa using hl
theorem nm_ok {x : Str} (h : nameS x = true) : okD 1 (.str x) = true := by
  unfold nameS at h
  simp only [Bool.and_eq_true, decide_eq_true_eq] at h
  simp only [okD, decide_eq_true_eq]
  omega
def isNmD (d : PV) : Bool := isNm d && okD 1 d
theorem ok_word (T : Tx K mg c0) : FD P w K mg base "_law_word" 2 (qThing 10 isNmD) := fd__law_word T (ok_draw T) (Nat.le_refl _) (by rintro ds w Q ⟨a, f, rfl, _⟩; rfl) (by
  rintro d0 w' Q ⟨a, f, e, hH, h⟩
  cases e
  unfold rd__law_word
  walk_at "go"
  refine ⟨a, 12, f + 9, rfl, by omega, by omega, hH, fun i w1 h0 h1 hH1 hf1 => ?_⟩
  walk_at "go"
  refine x_ite (fun h2 => ?_) fun h2 => ?_
  · walk_at "go"
    refine ⟨a, 14, f + 8, rfl, by omega, by omega, hH1, fun j w2 h3 h4 hH2 hf2 => ?_⟩
    refine x_ixLB isNmD h3 (by simpa using h4) (by decide +kernel) fun d hd _ => ?_
    exact h d w2 hd (hH2.le (by omega)) (hf1.trans hf2)
  · walk_at "go"
    refine ⟨a, 8, f + 8, rfl, by omega, by omega, hH1, fun j w2 h3 h4 hH2 hf2 => ?_⟩
    walk_at "go"
    refine x_and (by rw [nums_length, sizeLine_eq]; omega) ?_
    refine comp_ind (fun rest acc w3 => Hand w3 a (f + rest.length) ∧ Frm a w' w3 ∧ ∃ cs : List Nat, acc = (cs.map fun c => (⟨#[c]⟩ : Str)).map PV.str ∧ (∀ c ∈ cs, isLow c = true) ∧ cs.length + rest.length = (1 + j).toNat) ?_ ?_ _ [] w2 ⟨hH2.le (by rw [nums_length]; omega), hf1.trans hf2, [], rfl, (fun y hy => nomatch hy), by rw [nums_length]; simp⟩
    · rintro acc w3 ⟨hH3, hf3, cs, rfl, hy, hlen⟩
      simp only [List.length_nil, Nat.add_zero] at hlen
      have hn := join_name (cs := cs) (by omega) (by omega) hy
      refine ⟨_, _, rfl, strsOf_map _, ?_, ?_⟩
      · have e0 : Str.length "" = 0 := by decide +kernel
        rw [sum_ones _ (by intro y hy; obtain ⟨c, _, rfl⟩ := List.mem_map.mp hy; rfl), List.length_map, e0]; omega
      · refine h _ w3 ?_ hH3 hf3
        unfold isNmD
        rw [nm_ok hn, Bool.and_true]
        exact hn
    · rintro d r acc w3 N hN ⟨hH3, hf3, cs, rfl, hy, hlen⟩
      dsimp only [wName, wYes, wipeD, List.set]
      walk_at "go"
      refine ⟨a, 26, f + r.length, rfl, by omega, by omega, hH3.le (by simp; omega), fun i w4 h5 h6 hH4 hf4 => ?_⟩
      refine x_ixSB h5 (by have e : Str.length "abcdefghijklmnopqrstuvwxyz" = 26 := by decide +kernel
                           rw [e]; exact h6) (by decide +kernel) fun c hc => ?_
      refine hN _ w4 ⟨hH4, hf3.trans hf4, cs ++ [c], by simp, ?_, by simp at hlen ⊢; omega⟩
      intro y hy'
      rcases List.mem_append.mp hy' with q | q
      · exact hy y q
      · have : y = c := by simpa using q
        subst this
        rw [← mem_letters]; exact decide_eq_true hc)
def ix4 : PV → Bool
  | .int i => decide (0 ≤ i) && decide (i < 4)
  | _ => false
def qVal : PSp := fun ds w Q => ∃ (a : Addr) (f : Nat), ds = [.ref a] ∧ Hand w a (f + 6) ∧ ∀ (v : Vl) w', FV v → Hand w' a f → Frm a w w' → Q (enc v) w'
theorem okF_int {i : Int} (h1 : -(10 ^ 12) < i) (h2 : i < 10 ^ 12) : okF (.int i) = true := by
  show (decide (-(10 ^ 12) < i) && decide (i < 10 ^ 12)) = true
  rw [decide_eq_true h1, decide_eq_true h2]; rfl
theorem ok_val (T : Tx K mg c0) : FD P w K mg base "_law_value" 2 qVal := fd__law_value T (ok_draw T) (Nat.le_refl _) (by rintro ds w Q ⟨a, b, rfl, _⟩; rfl) (by
  rintro d0 w' Q ⟨a, f, e, hH, h⟩
  cases e
  unfold rd__law_value
  walk_at "go"
  refine ⟨a, _, f + 5, rfl, by omega, by omega, hH.le (by omega), fun i1 w1 a1 b1 hH1 f1 => ?_⟩
  walk_at "go"
  refine ⟨a, _, f + 4, rfl, by omega, by omega, hH1.le (by omega), fun i2 w2 a2 b2 hH2 f2 => ?_⟩
  walk_at "go"
  refine x_ixLB okF a2 (by simpa using b2) (by simp only [List.all_cons, List.all_nil, Bool.and_true, Bool.and_eq_true]; exact ⟨okF_int (by omega) (by omega), okF_int (by omega) (by omega), okF_int (by omega) (by omega)⟩) fun d1 q1 _ => ?_
  walk_at "go"
  refine ⟨a, _, f + 3, rfl, by omega, by omega, hH2.le (by omega), fun i3 w3 a3 b3 hH3 f3 => ?_⟩
  walk_at "go"
  refine ⟨a, _, f + 2, rfl, by omega, by omega, hH3.le (by omega), fun i4 w4 a4 b4 hH4 f4 => ?_⟩
  walk_at "go"
  refine ⟨a, _, f + 1, rfl, by omega, by omega, hH4.le (by omega), fun i5 w5 a5 b5 hH5 f5 => ?_⟩
  walk_at "go"
  refine x_ixLB okF a5 (by simpa using b5) (by decide +kernel) fun d2 q2 _ => ?_
  walk_at "go"
  refine ⟨a, _, f, rfl, by omega, by omega, hH5.le (by omega), fun i6 w6 a6 b6 hH6 f6 => ?_⟩
  walk_at "go"
  refine x_ixLB ix4 a6 (by simpa using b6) (by decide +kernel) fun d3 q3 _ => ?_
  cases d3 with
  | int j =>
    simp only [ix4, Bool.and_eq_true, decide_eq_true_eq] at q3
    walk_at "go"
    refine x_ixLB okF q3.1 (by simpa using q3.2) (by simp only [List.all_cons, List.all_nil, Bool.and_true, Bool.and_eq_true]; exact ⟨okF_int (by omega) (by omega), okF_int (by omega) (by omega), q1, q2⟩) fun d4 q4 _ => ?_
    obtain ⟨v, rfl, hv⟩ := okF_v q4
    walk_at "go"
    exact h v _ hv hH6 (f1.trans (f2.trans (f3.trans (f4.trans (f5.trans f6)))))
  | _ => simp [ix4] at q3)
end
end Lw

namespace Lw
open PySem L2 Pd Vy Fl Ft
local macro_rules | `(tactic| walk_at "call") => `(tactic| fail "none")
local macro_rules | `(tactic| walk_at "go") => `(tactic| (repeat (first | with_reducible refine Stp.go ?_ | dsimp only [List.set] | (walk_at "call") | with_reducible refine x_rixr (by first | assumption | exact wset_same) ?_ | with_reducible refine x_lenR (by first | assumption | exact wset_same) ?_ | ((with_reducible refine x_rsubc (by first | assumption | exact wset_same) ?_ ?_); (first | (focus (simp; done)) | (focus (simp; omega)))) | ((with_reducible refine x_gtup ?_ ?_); (first | rfl | (focus (simp; done)))) | ((with_reducible refine x_cI ?_ ?_); (first | exact True.intro | assumption)) | ((with_reducible refine x_cI2 ?_ ?_); (first | exact True.intro | assumption)) | ((with_reducible refine x_addL ?_ ?_); (first | (focus (show _ ≤ sizeLine; rw [sizeLine_eq]; simp; done)) | omega)) | ((with_reducible refine x_addT ?_ ?_); (first | (focus (show _ ≤ sizeLine; rw [sizeLine_eq]; simp; done)) | omega)) | ((with_reducible refine x_addS ?_ ?_); (first | (focus (show _ ≤ sizeLine; rw [sizeLine_eq]; simp; done)) | omega)) | ((with_reducible refine x_mod ?_ ?_); (first | omega | assumption)) | ((with_reducible refine x_fdiv ?_ ?_ ?_); (first | omega | assumption); (first | omega | assumption)) | ((with_reducible refine x_mul ?_ ?_); (first | (left; omega) | (right; omega))) | ((with_reducible refine x_pow ?_ ?_ ?_ ?_); decide; decide; decide; (try simp only [Int.reduceToNat, Int.reducePow])) | ((with_reducible refine x_and ?_ ?_); (first | (focus (show _ ≤ sizeLine; rw [sizeLine_eq]; simp; done)) | omega)) | ((with_reducible refine x_rrng1 ?_ ?_ ?_); omega; omega) | ((with_reducible refine x_iteT ?_ ?_); (first | omega | assumption)) | ((with_reducible refine x_iteF ?_ ?_); (first | omega | assumption)) | ((with_reducible refine x_iteNT ?_ ?_); (first | omega | assumption)) | ((with_reducible refine x_iteNF ?_ ?_); (first | omega | assumption)) | with_reducible refine L2.iteT ?_ | with_reducible refine L2.iteF ?_ | simp only [wset_wset] | ((with_reducible refine x_iteV ?_ ?_); focus (first | rfl | assumption)) | ((with_reducible refine x_iteW ?_ ?_); focus (first | rfl | assumption)) | ((with_reducible refine x_iteNV ?_ ?_); focus (first | rfl | assumption)) | ((with_reducible refine x_iteNW ?_ ?_); focus (first | rfl | assumption)) | ((with_reducible refine x_iteV ?_ ?_); focus (decide +kernel)) | ((with_reducible refine x_iteW ?_ ?_); focus (decide +kernel)) | ((with_reducible refine x_iteNV ?_ ?_); focus (decide +kernel)) | ((with_reducible refine x_iteNW ?_ ?_); focus (decide +kernel)))))
section
variable {P : Program} {w : World} {K : Frag} {mg : Str → Option Value} {base : Heap} {c0 pt : Addr}
instance s_zipI {ta : WA} {ρ : Sl} {w : Wd} {N : List PV → Wd → Prop} : Stp (wZip ta ρ w N) (ta ρ w fun ds w1 => rZip ds fun xs => N xs w1) := ⟨fun h => h⟩
instance s_rZip {x y : Str} {N : List PV → Prop} : Stp (rZip [.str x, .str y] N) (N (zipS x y)) := ⟨fun h => h⟩
def qIsN : PSp := fun ds w Q => ∃ v : Vl, ds = [enc v] ∧ Q (.bl (isN v)) w
theorem x_isV {v : Vl} {w : Wd} {Q : WQ} (h : Q (.bl (isN v)) w) : qIsN [enc v] w Q := ⟨v, rfl, h⟩
theorem ok_isn (T : Tx K mg c0) : FD P w K mg base "is_number" 1 qIsN := fd_is_number T (by rintro ds w Q ⟨d, rfl, _⟩; rfl) (by
  rintro d0 w' Q ⟨v, e, h⟩
  cases e
  unfold rd_is_number
  cases v with
  | num i => simp only [enc]; walk_at "go"; exact h
  | txt s => simp only [enc]; walk_at "go"; exact h)
theorem ok_lisn (T : Tx K mg c0) : FD P w K mg base "_law_is_number" 1 qIsN := fd__law_is_number T (by rintro ds w Q ⟨d, rfl, _⟩; rfl) (by
  rintro d0 w' Q ⟨v, e, h⟩
  cases e
  unfold rd__law_is_number
  cases v with
  | num i => simp only [enc]; walk_at "go"; exact h
  | txt s => simp only [enc]; walk_at "go"; exact h)
theorem x_isI {i : Int} {w : Wd} {Q : WQ} (h : Q (.bl true) w) : qIsN [.int i] w Q := ⟨.num i, rfl, h⟩
theorem x_isS {s : Str} {w : Wd} {Q : WQ} (h : Q (.bl false) w) : qIsN [.str s] w Q := ⟨.txt s, rfl, h⟩
local macro_rules | `(tactic| walk_at "call") => `(tactic| first | with_reducible refine x_isI ?_ | with_reducible refine x_isS ?_)
def qBef : PSp := fun ds w Q => ∃ a b : Vl, ds = [enc a, enc b] ∧ VOk a ∧ VOk b ∧ Q (.bl (bef a b)) w
theorem ok_bef (T : Tx K mg c0) : FD P w K mg base "before" 2 qBef := fd_before T (ok_isn T) (Nat.le_refl _) (by rintro ds w Q ⟨a, b, rfl, _⟩; rfl) (by
  rintro d0 d1 w' Q ⟨a, b, e, ha, hb, h⟩
  cases e
  unfold rd_before
  cases a with
  | num i =>
    cases b with
    | num j => simp only [enc]; walk_at "go"; exact h
    | txt t => simp only [enc]; walk_at "go"; exact h
  | txt s =>
    cases b with
    | num j => simp only [enc]; walk_at "go"; exact h
    | txt t => simp only [enc]; walk_at "go"; exact h)
def qAl : PSp := fun ds w Q => ∃ a b : Vl, ds = [enc a, enc b] ∧ Q (.bl (eqV a b)) w
theorem ok_alike (T : Tx K mg c0) : FD P w K mg base "are_alike" 2 qAl := fd_are_alike T (ok_isn T) (Nat.le_refl _) (by rintro ds w Q ⟨a, b, rfl, _⟩; rfl) (by
  rintro d0 d1 w' Q ⟨a, b, e, h⟩
  cases e
  unfold rd_are_alike
  cases a with
  | num i =>
    cases b with
    | num j => simp only [enc]; walk_at "go"; exact h
    | txt t => simp only [enc]; walk_at "go"; exact h
  | txt s =>
    cases b with
    | num j => simp only [enc]; walk_at "go"; exact h
    | txt t => simp only [enc]; walk_at "go"; exact h)
def qHolds : PSp := fun ds w Q => ∃ (c : Cm) (a b : Vl), ds = [.str c.w, enc a, enc b] ∧ VOk a ∧ VOk b ∧ Q (.bl (holds c a b)) w
theorem ok_holds (T : Tx K mg c0) : FD P w K mg base "holds_of" 3 qHolds := fd_holds_of T (ok_bef T) (by decide) (ok_alike T) (by decide) (ok_isn T) (by decide) (by rintro ds w Q ⟨c, a, b, rfl, _⟩; rfl) (by
  rintro d0 d1 d2 w' Q ⟨c, a, b, e, ha, hb, h⟩
  cases e
  unfold rd_holds_of
  cases c with
  | is =>
    simp only [Cm.w]
    walk_at "go"
    refine ⟨a, rfl, ?_⟩
    walk_at "go"
    refine ⟨b, rfl, ?_⟩
    by_cases e : isN a = isN b
    · rw [holds_same e] at h
      rw [e]
      refine s_neB.go ?_
      rw [show (!(isN b == isN b)) = false from by simp]
      walk_at "go"
      exact ⟨a, b, rfl, h⟩
    · have h2 : Q (.bl false) w' := by
        rw [holds_not e] at h
        exact h
      refine s_neB.go ?_
      rw [show (!(isN a == isN b)) = true from by simpa using e]
      walk_at "go"
      exact h2
  | under =>
    simp only [Cm.w]
    walk_at "go"
    refine ⟨a, rfl, ?_⟩
    walk_at "go"
    refine ⟨b, rfl, ?_⟩
    by_cases e : isN a = isN b
    · rw [holds_same e] at h
      rw [e]
      refine s_neB.go ?_
      rw [show (!(isN b == isN b)) = false from by simp]
      walk_at "go"
      exact ⟨a, b, rfl, ha, hb, h⟩
    · have h2 : Q (.bl false) w' := by
        rw [holds_not e] at h
        exact h
      refine s_neB.go ?_
      rw [show (!(isN a == isN b)) = true from by simpa using e]
      walk_at "go"
      exact h2
  | over =>
    simp only [Cm.w]
    walk_at "go"
    refine ⟨a, rfl, ?_⟩
    walk_at "go"
    refine ⟨b, rfl, ?_⟩
    by_cases e : isN a = isN b
    · rw [holds_same e] at h
      rw [e]
      refine s_neB.go ?_
      rw [show (!(isN b == isN b)) = false from by simp]
      walk_at "go"
      exact ⟨b, a, rfl, hb, ha, h⟩
    · have h2 : Q (.bl false) w' := by
        rw [holds_not e] at h
        exact h
      refine s_neB.go ?_
      rw [show (!(isN a == isN b)) = true from by simpa using e]
      walk_at "go"
      exact h2)
end
end Lw

namespace Lw
open PySem L2 Pd Vy Fl Ft
local macro_rules | `(tactic| walk_at "call") => `(tactic| fail "none")
local macro_rules | `(tactic| walk_at "go") => `(tactic| (repeat (first | with_reducible refine Stp.go ?_ | dsimp only [List.set] | (walk_at "call") | with_reducible refine x_rixr (by first | assumption | exact wset_same) ?_ | with_reducible refine x_lenR (by first | assumption | exact wset_same) ?_ | ((with_reducible refine x_rsubc (by first | assumption | exact wset_same) ?_ ?_); (first | (focus (simp; done)) | (focus (simp; omega)))) | ((with_reducible refine x_gtup ?_ ?_); (first | rfl | (focus (simp; done)))) | ((with_reducible refine x_cI ?_ ?_); (first | exact True.intro | assumption)) | ((with_reducible refine x_cI2 ?_ ?_); (first | exact True.intro | assumption)) | ((with_reducible refine x_addL ?_ ?_); (first | (focus (show _ ≤ sizeLine; rw [sizeLine_eq]; simp; done)) | omega)) | ((with_reducible refine x_addT ?_ ?_); (first | (focus (show _ ≤ sizeLine; rw [sizeLine_eq]; simp; done)) | omega)) | ((with_reducible refine x_addS ?_ ?_); (first | (focus (show _ ≤ sizeLine; rw [sizeLine_eq]; simp; done)) | omega)) | ((with_reducible refine x_mod ?_ ?_); (first | omega | assumption)) | ((with_reducible refine x_fdiv ?_ ?_ ?_); (first | omega | assumption); (first | omega | assumption)) | ((with_reducible refine x_mul ?_ ?_); (first | (left; omega) | (right; omega))) | ((with_reducible refine x_pow ?_ ?_ ?_ ?_); decide; decide; decide; (try simp only [Int.reduceToNat, Int.reducePow])) | ((with_reducible refine x_and ?_ ?_); (first | (focus (show _ ≤ sizeLine; rw [sizeLine_eq]; simp; done)) | omega)) | ((with_reducible refine x_rrng1 ?_ ?_ ?_); omega; omega) | ((with_reducible refine x_iteT ?_ ?_); (first | omega | assumption)) | ((with_reducible refine x_iteF ?_ ?_); (first | omega | assumption)) | ((with_reducible refine x_iteNT ?_ ?_); (first | omega | assumption)) | ((with_reducible refine x_iteNF ?_ ?_); (first | omega | assumption)) | with_reducible refine L2.iteT ?_ | with_reducible refine L2.iteF ?_ | simp only [wset_wset] | ((with_reducible refine x_iteV ?_ ?_); focus (first | rfl | assumption)) | ((with_reducible refine x_iteW ?_ ?_); focus (first | rfl | assumption)) | ((with_reducible refine x_iteNV ?_ ?_); focus (first | rfl | assumption)) | ((with_reducible refine x_iteNW ?_ ?_); focus (first | rfl | assumption)) | ((with_reducible refine x_iteV ?_ ?_); focus (decide +kernel)) | ((with_reducible refine x_iteW ?_ ?_); focus (decide +kernel)) | ((with_reducible refine x_iteNV ?_ ?_); focus (decide +kernel)) | ((with_reducible refine x_iteNW ?_ ?_); focus (decide +kernel)))))
section
variable {P : Program} {w : World} {K : Frag} {mg : Str → Option Value} {base : Heap} {c0 pt : Addr}
theorem fd_none {x : Str} {st : Stmt} {N ps : List Str} (F : Fx K mg x st ps) (S : FnScope N ps (defScope st)) {p : PSp} (h : ∀ ds w Q, p ds w Q → False) : FD P w K mg base x 1 p := by
  obtain ⟨f, fd, h1, h2, h3⟩ := F
  refine ⟨f, fd, ps, h2, h1.kp, h3, h1.ok S (fun vs H Q E q => ?_) fun cdv A outer s H vs Q E hr q => ?_⟩
  · obtain ⟨Z, ds, w, Q', _, _, q3, _⟩ := q
    exact (h _ _ _ q3).elim
  · obtain ⟨Z, ds, w, Q', _, _, q3, _⟩ := q
    exact (h _ _ _ q3).elim
def okv (d : PV) : Prop := ∃ v : Vl, d = enc v ∧ FV v
abbrev TOk (t : Tst) : Prop := t.ok (fun n => nameS n = true) VOk
def qFd (N : Nat) : PSp := fun ds w Q => ∃ t a kvs, ds = [encT t, .ref a] ∧ t.dp ≤ N ∧ w a = some (.dct kvs) ∧ FldOk okv kvs ∧ TOk t ∧ Q (.bl (fitT kvs t)) w
theorem dp0 {t : Tst} (h : t.dp ≤ 0) : False := by have := t.dp_pos; omega
theorem getP_okv {kvs : List (Key × PV)} {k : Key} {d : PV} (hk : FldOk okv kvs) (h : getP kvs k = some d) : ∃ v, d = enc v ∧ FV v := by
  unfold getP at h
  cases e : kvs.find? (fun kv => decide (kv.1 = k)) with
  | none => rw [e] at h; cases h
  | some p => rw [e] at h; cases h; exact hk.val p (List.mem_of_find?_eq_some e)
local macro_rules | `(tactic| walk_at "call") => `(tactic| first | with_reducible refine x_inX (by assumption) ?_ | with_reducible refine x_ninX (by assumption) ?_)
theorem ok_fd (T : Tx K mg c0) : ∀ N : Nat, FD P w K mg base "fits_dict" (N + 4) (qFd N)
  | 0 => (fd_none T.f_fits_dict sc_fits_dict (by rintro ds w Q ⟨t, a, kvs, _, h, _⟩; exact dp0 h)).mono (by omega)
  | N + 1 => fd_fits_dict T (ok_fd T N) (Nat.le_refl _) (ok_holds T) (by omega) (by rintro ds w Q ⟨t, a, kvs, rfl, _⟩; rfl) (by
    rintro d0 d1 w' Q ⟨t, a, kvs, e, hd, hw, hk, ht, h⟩
    cases e
    unfold rd_fits_dict
    cases t with
    | any => simp only [encT]; walk_at "go"; exact h
    | has n => simp only [encT]; walk_at "go"; exact h
    | cmp c n v =>
      have fin : if (getP kvs (.inr n)).isSome = true then wCall qHolds (wCons (wVar 2) (wCons (wOp dIxX (wVar 1) (wIxC 1 (wVar 0))) (wCons (wIxC 2 (wVar 0)) wNil))) [some (.tup [.str c.w, .str n, enc v]), some (.ref a), some (.str c.w)] w' Q else Q (.bl false) w' := by
        cases e : getP kvs (.inr n) with
        | none => simp only [fitT, e] at h; walk_at "go"; exact h
        | some d =>
          walk_at "go"
          refine x_ixX hw e ?_
          walk_at "go"
          obtain ⟨u, rfl, hu⟩ := getP_okv hk e
          simp only [fitT, e, toV_enc] at h
          exact ⟨c, u, v, rfl, hu.ok, ht.2, h⟩
      cases c with
      | is => simp only [encT, Cm.w] at fin ⊢; walk_at "go"; exact fin
      | under => simp only [encT, Cm.w] at fin ⊢; walk_at "go"; exact fin
      | over => simp only [encT, Cm.w] at fin ⊢; walk_at "go"; exact fin
    | nt t =>
      simp only [encT]; walk_at "go"
      exact ⟨t, a, kvs, rfl, by simpa [Tst.dp] using hd, hw, hk, ht, by walk_at "go"; exact h⟩
    | both t u =>
      simp only [Tst.dp] at hd
      simp only [fitT] at h
      simp only [encT]; walk_at "go"
      refine ⟨t, a, kvs, rfl, by omega, hw, hk, ht.1, ?_⟩
      cases e : fitT kvs t with
      | false => rw [e] at h; walk_at "go"; exact h
      | true => rw [e] at h; walk_at "go"; exact ⟨u, a, kvs, rfl, by omega, hw, hk, ht.2, h⟩
    | either t u =>
      simp only [Tst.dp] at hd
      simp only [fitT] at h
      simp only [encT]; walk_at "go"
      refine ⟨t, a, kvs, rfl, by omega, hw, hk, ht.1, ?_⟩
      cases e : fitT kvs t with
      | true => rw [e] at h; walk_at "go"; exact h
      | false => rw [e] at h; walk_at "go"; exact ⟨u, a, kvs, rfl, by omega, hw, hk, ht.2, h⟩)
end
end Lw

namespace Lw
open PySem L2 Pd Vy Fl Ft
local macro_rules | `(tactic| walk_at "call") => `(tactic| fail "none")
local macro_rules | `(tactic| walk_at "go") => `(tactic| (repeat (first | with_reducible refine Stp.go ?_ | dsimp only [List.set] | (walk_at "call") | with_reducible refine x_rixr (by first | assumption | exact wset_same) ?_ | with_reducible refine x_lenR (by first | assumption | exact wset_same) ?_ | ((with_reducible refine x_rsubc (by first | assumption | exact wset_same) ?_ ?_); (first | (focus (simp; done)) | (focus (simp; omega)))) | ((with_reducible refine x_gtup ?_ ?_); (first | rfl | (focus (simp; done)))) | ((with_reducible refine x_cI ?_ ?_); (first | exact True.intro | assumption)) | ((with_reducible refine x_cI2 ?_ ?_); (first | exact True.intro | assumption)) | ((with_reducible refine x_addL ?_ ?_); (first | (focus (show _ ≤ sizeLine; rw [sizeLine_eq]; simp; done)) | omega)) | ((with_reducible refine x_addT ?_ ?_); (first | (focus (show _ ≤ sizeLine; rw [sizeLine_eq]; simp; done)) | omega)) | ((with_reducible refine x_addS ?_ ?_); (first | (focus (show _ ≤ sizeLine; rw [sizeLine_eq]; simp; done)) | omega)) | ((with_reducible refine x_mod ?_ ?_); (first | omega | assumption)) | ((with_reducible refine x_fdiv ?_ ?_ ?_); (first | omega | assumption); (first | omega | assumption)) | ((with_reducible refine x_mul ?_ ?_); (first | (left; omega) | (right; omega))) | ((with_reducible refine x_pow ?_ ?_ ?_ ?_); decide; decide; decide; (try simp only [Int.reduceToNat, Int.reducePow])) | ((with_reducible refine x_and ?_ ?_); (first | (focus (show _ ≤ sizeLine; rw [sizeLine_eq]; simp; done)) | omega)) | ((with_reducible refine x_rrng1 ?_ ?_ ?_); omega; omega) | ((with_reducible refine x_iteT ?_ ?_); (first | omega | assumption)) | ((with_reducible refine x_iteF ?_ ?_); (first | omega | assumption)) | ((with_reducible refine x_iteNT ?_ ?_); (first | omega | assumption)) | ((with_reducible refine x_iteNF ?_ ?_); (first | omega | assumption)) | with_reducible refine L2.iteT ?_ | with_reducible refine L2.iteF ?_ | simp only [wset_wset] | ((with_reducible refine x_iteV ?_ ?_); focus (first | rfl | assumption)) | ((with_reducible refine x_iteW ?_ ?_); focus (first | rfl | assumption)) | ((with_reducible refine x_iteNV ?_ ?_); focus (first | rfl | assumption)) | ((with_reducible refine x_iteNW ?_ ?_); focus (first | rfl | assumption)) | ((with_reducible refine x_iteV ?_ ?_); focus (decide +kernel)) | ((with_reducible refine x_iteW ?_ ?_); focus (decide +kernel)) | ((with_reducible refine x_iteNV ?_ ?_); focus (decide +kernel)) | ((with_reducible refine x_iteNW ?_ ?_); focus (decide +kernel)))))
section
variable {P : Program} {w : World} {K : Frag} {mg : Str → Option Value} {base : Heap} {c0 pt : Addr}
def qAsf : PSp := fun ds w Q => (∃ a kvs, ds = [.ref a] ∧ w a = some (.dct kvs) ∧ ∀ p, w p = none → Q (.ref p) (wset w p (.dct kvs))) ∨ ∃ es kvs, ds = [.tpl es] ∧ pairsOf es = some kvs ∧ ∀ p, w p = none → Q (.ref p) (wset w p (.dct (mergeP [] kvs)))
theorem ok_asf (T : Tx K mg c0) : FD P w K mg base "as_fields" 1 qAsf := fd_as_fields T (by rintro ds w Q (⟨a, b, rfl, _⟩ | ⟨a, b, rfl, _⟩) <;> rfl) (by
  rintro d0 w' Q (⟨a, kvs, e, hw, h⟩ | ⟨es, kvs, e, hp, h⟩)
  · cases e
    unfold rd_as_fields
    walk_at "go"
    show cDict [.ref a] w' _
    unfold cDict
    simp only [hw]
    exact h
  · cases e
    unfold rd_as_fields
    walk_at "go"
    exact ⟨kvs, hp, h⟩)
abbrev qn : Str := "fields_told.<locals>.<lambda>"
/-- all that stood stands -/
def Grow (w w' : Wd) : Prop := ∀ b m, w b = some m → w' b = some m
theorem Grow.refl (w : Wd) : Grow w w := fun _ _ h => h
theorem Grow.trans {w w1 w2 : Wd} (a : Grow w w1) (b : Grow w1 w2) : Grow w w2 := fun c m h => b c m (a c m h)
theorem Grow.new {w : Wd} {p : Addr} {m : MO} (h : w p = none) : Grow w (wset w p m) := fun b n hb => by
  rw [wset_ne (fun e => by rw [e, h] at hb; cases hb)]; exact hb
def qTold (pt : Addr) : PSp := fun ds w Q => w pt = some (.tab qn) ∧ ∃ kvs, FldOk okv kvs ∧ ((∃ a, ds = [.ref a] ∧ w a = some (.dct kvs)) ∨ ds = [.tpl (told kvs)]) ∧ ∀ w', Grow w w' → Q (.tpl (told kvs)) w'
theorem ok_told (T : Tx K mg c0) (TB : LamX.TabB base mg c0 pt) : FD P w K mg base "fields_told" 2 (qTold pt) := fd_fields_told T TB (ok_asf T) (Nat.le_refl _) (by rintro ds w Q ⟨_, kvs, _, (⟨a, rfl, _⟩ | rfl), _⟩ <;> rfl) (by
  rintro d0 w' Q ⟨hpt, kvs, hk, hd, h⟩
  have fin : ∀ p ks, w' p = none → FldOk okv ks → told ks = told kvs → rSortIt pt qn (.ref p) (wset w' p (.dct ks)) fun x w1 => cTupP [x] w1 Q := fun p ks hp hk2 e => by
    unfold rSortIt
    simp only [wset_same]
    refine ⟨by rw [wset_ne (fun z => by rw [z, hp] at hpt; cases hpt)]; exact hpt, hk2.names, ?_⟩
    show Q (.tpl (told ks)) _
    rw [e]
    exact h _ (Grow.new hp)
  rcases hd with ⟨a, e, hw⟩ | e
  · cases e
    unfold rd_fields_told
    walk_at "go"
    refine .inl ⟨a, kvs, rfl, hw, fun p hp => ?_⟩
    exact fin p kvs hp hk rfl
  · cases e
    unfold rd_fields_told
    walk_at "go"
    refine .inr ⟨_, kvs.mergeSort leP, rfl, pairs_of hk.sort, fun p hp => ?_⟩
    rw [merge_nil hk.sort]
    exact fin p _ hp hk.sort (told_told hk))
def qFields : PSp := fun ds w Q => ∃ a m f, ds = [.ref a, .int m] ∧ 0 ≤ m ∧ m ≤ 9 ∧ Hand w a (f + 150) ∧ ∀ p kvs w', w p = none → FldOk okv kvs → (∀ kv ∈ kvs, ∃ n, kv.1 = .inr n ∧ nameS n = true) → kvs.length ≤ 9 → w' p = some (.dct kvs) → (∀ b, b ≠ a → b ≠ p → w' b = w b) → Hand w' a f → Q (.ref p) w'
theorem Hand.at {w w' : Wd} {a : Addr} {f : Nat} (h : Hand w a f) (e : w' a = w a) : Hand w' a f := by
  obtain ⟨m, h1, h2⟩ := h
  exact ⟨m, by rw [e]; exact h1, h2⟩
theorem Hand.ne {w : Wd} {a p : Addr} {f : Nat} (h : Hand w a f) (hp : w p = none) : p ≠ a := fun e => by
  obtain ⟨m, h1, _⟩ := h
  rw [e, h1] at hp; cases hp
theorem nm_str {d : PV} (h : isNmD d = true) : ∃ z : Str, d = .str z ∧ nameS z = true := by
  unfold isNmD isNm at h
  cases d <;> simp_all
theorem put_names {p : Str → Prop} {kvs : List (Key × PV)} {z : Str} {d : PV} (h : ∀ kv ∈ kvs, ∃ n, kv.1 = .inr n ∧ p n) (hz : p z) : ∀ kv ∈ putP kvs (.inr z) d, ∃ n, kv.1 = .inr n ∧ p n := by
  intro kv hkv
  by_cases c : (Sum.inr z : Key) ∈ kvs.map (·.1)
  · rcases (putP_old (d := d) c).2.2 kv hkv with q | q
    · exact h kv q
    · rw [q]; exact ⟨z, rfl, hz⟩
  · rw [putP_new c] at hkv
    rcases List.mem_append.mp hkv with q | q
    · exact h kv q
    · cases List.mem_singleton.mp q; exact ⟨z, rfl, hz⟩
theorem ok_fields (T : Tx K mg c0) : FD P w K mg base "_law_fields" 3 qFields := fd__law_fields T (ok_draw T) (by decide) (ok_val T) (by decide) (ok_word T) (by decide) (by rintro ds w Q ⟨a, m, f, rfl, _⟩; rfl) (by
  rintro d0 d1 w' Q ⟨a, m, f, e, h0, h9, hH, h⟩
  cases e
  unfold rd__law_fields
  walk_at "go"
  intro p hp
  have np : p ≠ a := hH.ne hp
  walk_at "go"
  refine ⟨a, _, f + 149, rfl, by omega, by omega, hH.at (wset_ne (Ne.symm np)), fun n w1 hn0 hn hH1 hf1 => ?_⟩
  walk_at "go"
  refine for_ind (fun rest ρ w2 => ∃ o3 kvs, ρ = [some (.ref a), some (.int m), some (.ref p), o3] ∧ FldOk okv kvs ∧ (∀ kv ∈ kvs, ∃ n, kv.1 = .inr n ∧ nameS n = true) ∧ kvs.length + rest.length ≤ 9 ∧ w2 p = some (.dct kvs) ∧ (∀ b, b ≠ a → b ≠ p → w2 b = w' b) ∧ Hand w2 a (f + 16 * rest.length)) ?_ ?_ _ _ _ ⟨_, [], rfl, ⟨List.nodup_nil, (fun _ h => nomatch h), (fun _ h => nomatch h)⟩, (fun _ h => nomatch h), by rw [nums_length]; simp; omega, by rw [hf1 p np, wset_same], fun b hb hb' => by rw [hf1 b hb, wset_ne hb'], hH1.le (by rw [nums_length]; omega)⟩
  · rintro ρ w2 ⟨o3, kvs, rfl, hk, hks, hl, hw, hfr, hH2⟩
    walk_at "go"
    exact h p kvs w2 hp hk hks (by simpa using hl) hw hfr (hH2.le (by omega))
  · rintro d r ρ w2 N hN ⟨o3, kvs, rfl, hk, hks, hl, hw, hfr, hH2⟩
    simp only [List.length_cons] at hl hH2
    walk_at "go"
    refine ⟨a, f + 16 * r.length + 10, rfl, hH2.le (by omega), fun v w3 hv hH3 hf3 => ?_⟩
    walk_at "go"
    refine ⟨a, f + 16 * r.length, rfl, hH3, fun dn w4 hdn hH4 hf4 => ?_⟩
    obtain ⟨z, rfl, hz⟩ := nm_str hdn
    have hw4 : w4 p = some (.dct kvs) := by rw [hf4 p np, hf3 p np]; exact hw
    obtain ⟨q1, q2⟩ := hk.put (z := z) (d := enc v) ⟨v, rfl, hv⟩
    walk_at "go"
    show rSubX (enc v) (.ref p) (.str z) w4 _
    unfold rSubX
    simp only [hw4, Pd.keyOf]
    refine ⟨by rw [sizeLine_eq]; omega, ?_⟩
    refine hN _ _ ⟨_, putP kvs (.inr z) (enc v), rfl, q1, put_names hks hz, by omega, wset_same, fun b hb hb' => ?_, hH4.at (wset_ne (Ne.symm np))⟩
    rw [wset_ne hb', hf4 b hb, hf3 b hb, hfr b hb hb'])
def qFits (N : Nat) : PSp := fun ds w Q => ∃ t kvs, t.dp ≤ N ∧ FldOk okv kvs ∧ TOk t ∧ ((∃ a, ds = [encT t, .ref a] ∧ w a = some (.dct kvs)) ∨ ds = [encT t, .tpl (told kvs)]) ∧ ∀ w', Grow w w' → Q (.bl (fitT kvs t)) w'
theorem ok_fits (T : Tx K mg c0) (N : Nat) : FD P w K mg base "fits" (N + 5) (qFits N) := fd_fits T (ok_fd T N) (Nat.le_refl _) (ok_asf T) (by omega) (by rintro ds w Q ⟨t, kvs, _, _, _, (⟨a, rfl, _⟩ | rfl), _⟩ <;> rfl) (by
  rintro d0 d1 w' Q ⟨t, kvs, hd, hk, ht, hc, h⟩
  rcases hc with ⟨a, e, hw⟩ | e
  · cases e
    unfold rd_fits
    walk_at "go"
    refine .inl ⟨a, kvs, rfl, hw, fun p hp => ?_⟩
    exact ⟨t, p, kvs, rfl, hd, wset_same, hk, ht, h _ (Grow.new hp)⟩
  · cases e
    unfold rd_fits
    walk_at "go"
    refine .inr ⟨_, kvs.mergeSort leP, rfl, pairs_of hk.sort, fun p hp => ?_⟩
    rw [merge_nil hk.sort]
    exact ⟨t, p, _, rfl, hd, wset_same, hk.sort, ht, by rw [fitT_sort hk]; exact h _ (Grow.new hp)⟩)
def tf : Nat → Nat
  | 0 => 20
  | n + 1 => 2 * tf n + 20
theorem tf_ge : ∀ n, 20 ≤ tf n
  | 0 => Nat.le_refl _
  | n + 1 => by simp only [tf]; omega
theorem x_ixEx {ds : List PV} {i : Int} {w : Wd} {Q : WQ} (p : PV → Prop) (h0 : 0 ≤ i) (h1 : i < ds.length) (hp : ∀ d ∈ ds, p d) (h : ∀ d, p d → Q d w) : dIx (.lst ds) (.int i) w Q := x_ixMem h0 h1 fun d hd => h d (hp d hd)
def isCmW (d : PV) : Prop := ∃ c : Cm, d = .str c.w
theorem cm4 : ∀ d ∈ [PV.str "is", .str "under", .str "over", .str "is"], isCmW d := by
  simp only [List.mem_cons, List.not_mem_nil, or_false]
  rintro d (rfl | rfl | rfl | rfl)
  · exact ⟨.is, rfl⟩
  · exact ⟨.under, rfl⟩
  · exact ⟨.over, rfl⟩
  · exact ⟨.is, rfl⟩
def qLT (N : Nat) : PSp := fun ds w Q => ∃ n, n < N ∧ ∃ a f, ds = [.ref a, .int (n : Int)] ∧ Hand w a (f + tf n) ∧ ∀ t w', t.dp ≤ n + 1 → TOk t → Hand w' a f → Frm a w w' → Q (encT t) w'
theorem ok_mtest (T : Tx K mg c0) : ∀ N : Nat, FD P w K mg base "_law_test" (N + 2) (qLT N)
  | 0 => (fd_none T.f__law_test sc__law_test (by rintro ds w Q ⟨n, hn, _⟩; exact Nat.not_lt_zero _ hn)).mono (by omega)
  | N + 1 => fd__law_test T (ok_mtest T N) (Nat.le_refl _) (ok_val T) (by omega) (ok_word T) (by omega) (ok_draw T) (by omega) (by rintro ds w Q ⟨n, hn, a, f, rfl, _⟩; rfl) (by
    rintro d0 d1 w' Q ⟨n, hn, a, f, e, hH, h⟩
    cases e
    have hge := tf_ge n
    unfold rd__law_test
    walk_at "go"
    refine ⟨a, 9, f + tf n - 1, rfl, by omega, by omega, hH.le (by omega), fun way w1 h0 h1 hH1 hf1 => ?_⟩
    walk_at "go"
    refine x_ite (fun h2 => ?_) fun h2 => ?_
    · walk_at "go"
      refine ⟨a, f + 1, rfl, hH1.le (by omega), fun d w2 hd hH2 hf2 => ?_⟩
      obtain ⟨z, rfl, hz⟩ := nm_str hd
      walk_at "go"
      refine ⟨a, 4, f, rfl, by omega, by omega, hH2, fun i w3 h8 h9 hH3 hf3 => ?_⟩
      walk_at "go"
      refine x_ixMem (by omega) (by simp; omega) fun d hd => ?_
      simp only [List.mem_cons, List.not_mem_nil, or_false] at hd
      rcases hd with rfl | rfl
      · exact h .any w3 (by simp [Tst.dp]) True.intro hH3 ((hf1.trans hf2).trans hf3)
      · exact h (.has z) w3 (by simp [Tst.dp]) hz hH3 ((hf1.trans hf2).trans hf3)
    · walk_at "go"
      refine x_ite (fun h3 => ?_) fun h3 => ?_
      · walk_at "go"
        refine x_ite (fun h4 => ?_) fun h4 => ?_
        · walk_at "go"
          refine ⟨a, f + 1, rfl, hH1.le (by omega), fun d w2 hd hH2 hf2 => ?_⟩
          obtain ⟨z, rfl, hz⟩ := nm_str hd
          walk_at "go"
          refine ⟨a, 4, f, rfl, by omega, by omega, hH2, fun i w3 h8 h9 hH3 hf3 => ?_⟩
          walk_at "go"
          refine x_ixMem (by omega) (by simp; omega) fun d hd => ?_
          simp only [List.mem_cons, List.not_mem_nil, or_false] at hd
          rcases hd with rfl | rfl
          · exact h .any w3 (by simp [Tst.dp]) True.intro hH3 ((hf1.trans hf2).trans hf3)
          · exact h (.has z) w3 (by simp [Tst.dp]) hz hH3 ((hf1.trans hf2).trans hf3)
        · walk_at "go"
          refine x_ixEx isCmW (by omega) (by simp; omega) cm4 fun d hd => ?_
          obtain ⟨c, rfl⟩ := hd
          walk_at "go"
          refine ⟨a, f + 6, rfl, hH1.le (by omega), fun d w2 hd hH2 hf2 => ?_⟩
          obtain ⟨z, rfl, hz⟩ := nm_str hd
          walk_at "go"
          refine ⟨a, f, rfl, hH2, fun v w3 hv hH3 hf3 => ?_⟩
          walk_at "go"
          exact h (.cmp c z v) w3 (by simp [Tst.dp]) ⟨hz, hv.ok⟩ hH3 ((hf1.trans hf2).trans hf3)
      · obtain ⟨m, rfl⟩ : ∃ m, n = m + 1 := ⟨n - 1, by omega⟩
        walk_at "go"
        refine x_ite (fun h5 => ?_) fun h5 => ?_
        · walk_at "go"
          refine x_ixEx isCmW (by omega) (by simp; omega) cm4 fun d hd => ?_
          obtain ⟨c, rfl⟩ := hd
          walk_at "go"
          refine ⟨a, f + 6, rfl, hH1.le (by omega), fun d w2 hd hH2 hf2 => ?_⟩
          obtain ⟨z, rfl, hz⟩ := nm_str hd
          walk_at "go"
          refine ⟨a, f, rfl, hH2, fun v w3 hv hH3 hf3 => ?_⟩
          walk_at "go"
          exact h (.cmp c z v) w3 (by simp [Tst.dp]) ⟨hz, hv.ok⟩ hH3 ((hf1.trans hf2).trans hf3)
        · walk_at "go"
          simp only [tf] at hH1
          refine x_ite (fun h6 => ?_) fun h6 => ?_
          · walk_at "go"
            refine ⟨m, by omega, a, f, by rw [show ((m + 1 : Nat) : Int) - 1 = (m : Int) from by omega], hH1.le (by omega), fun t w2 hd ht hH2 hf2 => ?_⟩
            walk_at "go"
            exact h (.nt t) w2 (by simp only [Tst.dp]; omega) ht hH2 (hf1.trans hf2)
          · walk_at "go"
            refine x_ixMem (by omega) (by simp; omega) fun d hd => ?_
            simp only [List.mem_cons, List.not_mem_nil, or_false] at hd
            rcases hd with rfl | rfl
            · walk_at "go"
              refine ⟨m, by omega, a, f + tf m, by rw [show ((m + 1 : Nat) : Int) - 1 = (m : Int) from by omega], hH1.le (by omega), fun t w2 hd ht hH2 hf2 => ?_⟩
              walk_at "go"
              refine ⟨m, by omega, a, f, by rw [show ((m + 1 : Nat) : Int) - 1 = (m : Int) from by omega], hH2, fun u w3 hd2 hu hH3 hf3 => ?_⟩
              walk_at "go"
              exact h (.both t u) w3 (by simp only [Tst.dp]; omega) ⟨ht, hu⟩ hH3 ((hf1.trans hf2).trans hf3)
            · walk_at "go"
              refine ⟨m, by omega, a, f + tf m, by rw [show ((m + 1 : Nat) : Int) - 1 = (m : Int) from by omega], hH1.le (by omega), fun t w2 hd ht hH2 hf2 => ?_⟩
              walk_at "go"
              refine ⟨m, by omega, a, f, by rw [show ((m + 1 : Nat) : Int) - 1 = (m : Int) from by omega], hH2, fun u w3 hd2 hu hH3 hf3 => ?_⟩
              walk_at "go"
              exact h (.either t u) w3 (by simp only [Tst.dp]; omega) ⟨ht, hu⟩ hH3 ((hf1.trans hf2).trans hf3))
end
end Lw

namespace Lw
open PySem L2 Pd Vy Fl Ft
local macro_rules | `(tactic| walk_at "call") => `(tactic| fail "none")
local macro_rules | `(tactic| walk_at "go") => `(tactic| (repeat (first | with_reducible refine Stp.go ?_ | dsimp only [List.set] | (walk_at "call") | with_reducible refine x_rixr (by first | assumption | exact wset_same) ?_ | with_reducible refine x_lenR (by first | assumption | exact wset_same) ?_ | ((with_reducible refine x_rsubc (by first | assumption | exact wset_same) ?_ ?_); (first | (focus (simp; done)) | (focus (simp; omega)))) | ((with_reducible refine x_gtup ?_ ?_); (first | rfl | (focus (simp; done)))) | ((with_reducible refine x_cI ?_ ?_); (first | exact True.intro | assumption)) | ((with_reducible refine x_cI2 ?_ ?_); (first | exact True.intro | assumption)) | ((with_reducible refine x_addL ?_ ?_); (first | (focus (show _ ≤ sizeLine; rw [sizeLine_eq]; simp; done)) | omega)) | ((with_reducible refine x_addT ?_ ?_); (first | (focus (show _ ≤ sizeLine; rw [sizeLine_eq]; simp; done)) | omega)) | ((with_reducible refine x_addS ?_ ?_); (first | (focus (show _ ≤ sizeLine; rw [sizeLine_eq]; simp; done)) | omega)) | ((with_reducible refine x_mod ?_ ?_); (first | omega | assumption)) | ((with_reducible refine x_fdiv ?_ ?_ ?_); (first | omega | assumption); (first | omega | assumption)) | ((with_reducible refine x_mul ?_ ?_); (first | (left; omega) | (right; omega))) | ((with_reducible refine x_pow ?_ ?_ ?_ ?_); decide; decide; decide; (try simp only [Int.reduceToNat, Int.reducePow])) | ((with_reducible refine x_and ?_ ?_); (first | (focus (show _ ≤ sizeLine; rw [sizeLine_eq]; simp; done)) | omega)) | ((with_reducible refine x_rrng1 ?_ ?_ ?_); omega; omega) | ((with_reducible refine x_iteT ?_ ?_); (first | omega | assumption)) | ((with_reducible refine x_iteF ?_ ?_); (first | omega | assumption)) | ((with_reducible refine x_iteNT ?_ ?_); (first | omega | assumption)) | ((with_reducible refine x_iteNF ?_ ?_); (first | omega | assumption)) | with_reducible refine L2.iteT ?_ | with_reducible refine L2.iteF ?_ | simp only [wset_wset] | ((with_reducible refine x_iteV ?_ ?_); focus (first | rfl | assumption)) | ((with_reducible refine x_iteW ?_ ?_); focus (first | rfl | assumption)) | ((with_reducible refine x_iteNV ?_ ?_); focus (first | rfl | assumption)) | ((with_reducible refine x_iteNW ?_ ?_); focus (first | rfl | assumption)) | ((with_reducible refine x_iteV ?_ ?_); focus (decide +kernel)) | ((with_reducible refine x_iteW ?_ ?_); focus (decide +kernel)) | ((with_reducible refine x_iteNV ?_ ?_); focus (decide +kernel)) | ((with_reducible refine x_iteNW ?_ ?_); focus (decide +kernel)))))
section
variable {P : Program} {w : World} {K : Frag} {mg : Str → Option Value} {base : Heap} {c0 pt : Addr}
theorem ok_num (T : Tx K mg c0) : FD P w K mg base "is_number" 1 (qOf isNum) := fd_is_number T (by rintro ds w Q ⟨d, rfl, _⟩; rfl) (by
  rintro d0 w' Q ⟨d, e, hp, hs, h⟩
  cases e
  unfold rd_is_number
  cases d0 <;> simp [PV.pl] at hp <;> (walk_at "go"; exact h))
theorem ok_text (T : Tx K mg c0) : FD P w K mg base "is_text" 1 (qOf isStr) := fd_is_text T (by rintro ds w Q ⟨d, rfl, _⟩; rfl) (by
  rintro d0 w' Q ⟨d, e, hp, hs, h⟩
  cases e
  unfold rd_is_text
  cases d0 <;> simp [PV.pl] at hp <;> (walk_at "go"; exact h))
theorem ok_value (T : Tx K mg c0) : FD P w K mg base "is_value" 2 (qOf isVal) := fd_is_value T (ok_text T) (Nat.le_refl _) (ok_num T) (Nat.le_refl _) (by rintro ds w Q ⟨d, rfl, _⟩; rfl) (by
  rintro d0 w' Q ⟨d, e, hp, hs, h⟩
  cases e
  unfold rd_is_value
  walk_at "go"
  refine ⟨d0, rfl, hp, hs, ?_⟩
  cases d0 with
  | int i => walk_at "go"; exact h
  | _ => first | (exfalso; simp [PV.pl] at hp; done) | (walk_at "go"; exact ⟨_, rfl, hp, hs, h⟩))
theorem ok_name (T : Tx K mg c0) : FD P w K mg base "is_name" 2 (qOf isNm) := fd_is_name T (ok_text T) (Nat.le_refl _) (by rintro ds w Q ⟨d, rfl, _⟩; rfl) (by
  rintro d0 w' Q ⟨d, e, hp, hs, h⟩
  cases e
  unfold rd_is_name
  walk_at "go"
  refine ⟨d0, rfl, hp, hs, ?_⟩
  cases d0 with
  | str x =>
    walk_at "go"
    refine x_lenS hs ?_
    have hn : isNm (.str x) = nameS x := rfl
    rw [hn] at h
    walk_at "go"
    refine x_ite (fun h1 => ?_) fun h1 => ?_
    · walk_at "go"
      refine x_iteN (fun h2 => ?_) fun h2 => ?_
      · walk_at "go"
        have q : nameS x = false := by unfold nameS; rw [decide_eq_false (by omega : ¬ x.length ≤ 8)]; simp
        rw [q] at h; exact h
      · walk_at "go"
        have h8 : x.cps.size ≤ 8 := by
          have z := str_len x
          simp at z; omega
        refine x_and (by rw [signs_length, sizeLine_eq]; omega) ?_
        refine comp_mapG (fun c => PV.str ⟨#[c]⟩) (fun c => PV.bl (isLow c)) x.cps.toList [] (fun c _ Q' q => ?_) ?_
        · dsimp only [wipeD, List.set]
          walk_at "go"
          exact ⟨c, rfl, by rw [mem_letters]; exact q⟩
        · rw [List.nil_append]
          walk_at "go"
          refine ⟨_, blsOf_map isLow _, ?_⟩
          have q : nameS x = (x.cps.toList.map isLow).all id := by
            unfold nameS
            rw [decide_eq_true (by omega : 1 ≤ x.length), decide_eq_true (by omega : x.length ≤ 8), List.all_map]
            rfl
          rw [q] at h; exact h
    · walk_at "go"
      have q : nameS x = false := by unfold nameS; rw [decide_eq_false (by omega : ¬ 1 ≤ x.length)]; simp
      rw [q] at h; exact h
  | _ => first | (exfalso; simp [PV.pl] at hp; done) | (walk_at "go"; exact h))
def qIsT (N : Nat) : PSp := fun ds w Q => ∃ t, ds = [encT t] ∧ t.dp ≤ N ∧ TOk t ∧ Q (.bl true) w
theorem nm_q {n : Str} (h : nameS n = true) {w : Wd} {Q : WQ} (q : Q (.bl true) w) : qOf isNm [.str n] w Q := by
  have hl : n.length ≤ 8 := by
    unfold nameS at h
    simp only [Bool.and_eq_true, decide_eq_true_eq] at h
    exact h.1.2
  refine ⟨.str n, rfl, by simp [PV.pl], sl_small (by omega), ?_⟩
  rw [show isNm (.str n) = true from h]
  exact q
theorem vl_q {v : Vl} (h : VOk v) {w : Wd} {Q : WQ} (q : Q (.bl true) w) : qOf isVal [enc v] w Q := by
  cases v with
  | num i => exact ⟨.int i, rfl, by simp [PV.pl], True.intro, q⟩
  | txt s => exact ⟨.str s, rfl, by simp [PV.pl], (by show s.length ≤ sizeLine; rw [sizeLine_eq]; have : s.length ≤ 2000 := h; omega), q⟩
theorem ok_test (T : Tx K mg c0) : ∀ N : Nat, FD P w K mg base "is_test" (N + 3) (qIsT N)
  | 0 => (fd_none T.f_is_test sc_is_test (by rintro ds w Q ⟨t, _, h, _⟩; exact dp0 h)).mono (by omega)
  | N + 1 => fd_is_test T (ok_test T N) (Nat.le_refl _) (ok_value T) (by omega) (ok_name T) (by omega) (by rintro ds w Q ⟨t, rfl, _⟩; rfl) (by
    rintro d0 w' Q ⟨t, e, hd, ht, h⟩
    cases e
    unfold rd_is_test
    cases t with
    | any => simp only [encT]; walk_at "go"; exact h
    | has n => simp only [encT]; walk_at "go"; exact nm_q ht h
    | cmp c n v =>
      cases c with
      | is =>
        simp only [encT, Cm.w]; walk_at "go"
        refine nm_q ht.1 ?_
        walk_at "go"
        exact vl_q ht.2 h
      | under =>
        simp only [encT, Cm.w]; walk_at "go"
        refine nm_q ht.1 ?_
        walk_at "go"
        exact vl_q ht.2 h
      | over =>
        simp only [encT, Cm.w]; walk_at "go"
        refine nm_q ht.1 ?_
        walk_at "go"
        exact vl_q ht.2 h
    | nt t =>
      simp only [encT]; walk_at "go"
      exact ⟨t, rfl, by simpa [Tst.dp] using hd, ht, h⟩
    | both t u =>
      simp only [Tst.dp] at hd
      simp only [encT]; walk_at "go"
      refine ⟨t, rfl, by omega, ht.1, ?_⟩
      walk_at "go"
      exact ⟨u, rfl, by omega, ht.2, h⟩
    | either t u =>
      simp only [Tst.dp] at hd
      simp only [encT]; walk_at "go"
      refine ⟨t, rfl, by omega, ht.1, ?_⟩
      walk_at "go"
      exact ⟨u, rfl, by omega, ht.2, h⟩)
theorem cut_take {α : Type} (xs : List α) (m : Nat) (h : m ≤ xs.length) : cutD xs none (some (m : Int)) = xs.take m := by
  unfold cutD
  rw [HT.sIx_nat, HT.sIx_none]
  simp
  try omega
theorem cut_drop {α : Type} (xs : List α) (m : Nat) (h : m ≤ xs.length) : cutD xs (some (m : Int)) none = xs.drop m := by
  unfold cutD
  rw [HT.sIx_nat, HT.sIx_none]
  rw [Nat.min_eq_left h]
  exact List.take_of_length_le (by rw [List.length_drop]; omega)
/-- how tests are joined -/
inductive Jn where
  | both | either
def Jn.nm : Jn → Str
  | .both => "both"
  | .either => "either"
def Jn.mk : Jn → Tst → Tst → Tst
  | .both, a, b => .both a b
  | .either, a, b => .either a b
def Jn.op : Jn → Bool → Bool → Bool
  | .both, a, b => a && b
  | .either, a, b => a || b
def Jn.fold (j : Jn) (x : Bool) (ys : List Bool) : Bool := ys.foldl j.op x
theorem Jn.comm (j : Jn) (a b : Bool) : j.op a b = j.op b a := by cases j <;> cases a <;> cases b <;> rfl
theorem Jn.fit (j : Jn) (kvs : List (Key × PV)) (a b : Tst) : fitT kvs (j.mk a b) = j.op (fitT kvs a) (fitT kvs b) := by cases j <;> rfl
theorem Jn.enc (j : Jn) (a b : Tst) : encT (j.mk a b) = .tup [.str j.nm, encT a, encT b] := by cases j <;> rfl
theorem Jn.dp (j : Jn) (a b : Tst) : (j.mk a b).dp = max a.dp b.dp + 1 := by cases j <;> rfl
theorem Jn.tok (j : Jn) {a b : Tst} (ha : TOk a) (hb : TOk b) : TOk (j.mk a b) := by cases j <;> exact ⟨ha, hb⟩
theorem both_all : ∀ (ys : List Bool) (x : Bool), Jn.fold .both x ys = (x && ys.all id)
  | [], x => by simp [Jn.fold]
  | y :: r, x => by
    show Jn.fold .both (x && y) r = _
    rw [both_all r, List.all_cons]; cases x <;> cases y <;> rfl
theorem either_any : ∀ (ys : List Bool) (x : Bool), Jn.fold .either x ys = (x || ys.any id)
  | [], x => by simp [Jn.fold]
  | y :: r, x => by
    show Jn.fold .either (x || y) r = _
    rw [either_any r, List.any_cons]; cases x <;> cases y <;> rfl
def qJoin : PSp := fun ds w Q => ∃ (j : Jn) (t : Tst) (ts : List Tst), ds = [.str j.nm, .lst ((t :: ts).map encT)] ∧ ts.length ≤ 7 ∧ (∀ u ∈ t :: ts, TOk u ∧ u.dp ≤ 4) ∧ ∀ u, TOk u → u.dp ≤ 4 + ts.length → (∀ kvs, fitT kvs u = j.fold (fitT kvs t) (ts.map (fitT kvs))) → Q (encT u) w
theorem enums_cons (d : PV) (ds : List PV) (n : Nat) : ((d :: ds).zipIdx n).map (fun x : PV × Nat => PV.tup [.int (x.2 : Nat), x.1]) = .tup [.int (n : Nat), d] :: (ds.zipIdx (n + 1)).map (fun x : PV × Nat => PV.tup [.int (x.2 : Nat), x.1]) := by
  rw [List.zipIdx_cons, List.map_cons]
theorem ok_join (T : Tx K mg c0) : FD P w K mg base "_law_joined" 1 qJoin := fd__law_joined T (by rintro ds w Q ⟨j, t, ts, rfl, _⟩; rfl) (by
  rintro d0 d1 w' Q ⟨j, t, ts, e, hl, ht, h⟩
  cases e
  unfold rd__law_joined
  rw [List.map_cons]
  walk_at "go"
  have ec : cutD (encT t :: ts.map encT) (some 1) none = ts.map encT := by
    have := cut_drop (encT t :: ts.map encT) 1 (by simp)
    simpa using this
  rw [ec]
  refine for_ind (fun rest ρ w1 => w1 = w' ∧ ∃ (n : Nat) (done todo : List Tst) (u : Tst) (o3 o4 : Option PV), ts = done ++ todo ∧ rest = ((todo.map encT).zipIdx n).map (fun x : PV × Nat => PV.tup [.int (x.2 : Nat), x.1]) ∧ ρ = [some (.str j.nm), some (.lst (encT t :: ts.map encT)), some (encT u), o3, o4] ∧ TOk u ∧ u.dp ≤ 4 + done.length ∧ ∀ kvs, fitT kvs u = j.fold (fitT kvs t) (done.map (fitT kvs))) ?_ ?_ _ _ _ ⟨rfl, 0, [], ts, t, _, _, rfl, rfl, rfl, (ht t List.mem_cons_self).1, (ht t List.mem_cons_self).2, fun _ => rfl⟩
  · rintro ρ w1 ⟨rfl, n, done, todo, u, o3, o4, ed, er, rfl, hu, hd, hf⟩
    have et : todo = [] := by
      cases todo with
      | nil => rfl
      | cons a b => rw [List.map_cons, enums_cons] at er; cases er
    subst et
    rw [List.append_nil] at ed
    subst ed
    walk_at "go"
    exact h u hu hd hf
  · rintro d r ρ w1 N hN ⟨rfl, n, done, todo, u, o3, o4, ed, er, rfl, hu, hd, hf⟩
    cases todo with
    | nil => cases er
    | cons x todo =>
      rw [List.map_cons, enums_cons] at er
      cases er
      have hx := ht x (by rw [ed]; simp)
      walk_at "go"
      have fin : ∀ v : Tst, v = j.mk u x ∨ v = j.mk x u → N [some (.str j.nm), some (.lst (encT t :: ts.map encT)), some (encT v), some (.int (n : Nat)), some (encT x)] w1 := fun v hv => by
        refine hN _ _ ⟨rfl, n + 1, done ++ [x], todo, v, _, _, by rw [ed]; simp, rfl, rfl, ?_, ?_, fun kvs => ?_⟩
        · rcases hv with rfl | rfl
          · exact j.tok hu hx.1
          · exact j.tok hx.1 hu
        · have e : v.dp ≤ max u.dp x.dp + 1 := by
            rcases hv with rfl | rfl
            · rw [Jn.dp]; exact Nat.le_refl _
            · rw [Jn.dp, Nat.max_comm]; exact Nat.le_refl _
          have := hx.2
          rw [List.length_append, List.length_singleton]
          omega
        · have e : fitT kvs v = j.op (fitT kvs u) (fitT kvs x) := by
            rcases hv with rfl | rfl
            · rw [Jn.fit]
            · rw [Jn.fit, Jn.comm]
          rw [e, hf, List.map_append]
          unfold Jn.fold
          rw [List.foldl_append]
          rfl
      refine x_ixMem (by omega) (by simp; omega) fun d hd => ?_
      simp only [List.mem_cons, List.not_mem_nil, or_false] at hd
      rcases hd with rfl | rfl
      · walk_at "go"
        have := fin (j.mk u x) (.inl rfl)
        rw [Jn.enc] at this
        exact this
      · walk_at "go"
        have := fin (j.mk x u) (.inr rfl)
        rw [Jn.enc] at this
        exact this)
end
end Lw

namespace Lw
open PySem L2 Pd Vy Fl Ft
local macro_rules | `(tactic| walk_at "call") => `(tactic| fail "none")
local macro_rules | `(tactic| walk_at "go") => `(tactic| (repeat (first | with_reducible refine Stp.go ?_ | dsimp only [List.set] | (walk_at "call") | with_reducible refine x_rixr (by first | assumption | exact wset_same) ?_ | with_reducible refine x_lenR (by first | assumption | exact wset_same) ?_ | ((with_reducible refine x_rsubc (by first | assumption | exact wset_same) ?_ ?_); (first | (focus (simp; done)) | (focus (simp; omega)))) | ((with_reducible refine x_gtup ?_ ?_); (first | rfl | (focus (simp; done)))) | ((with_reducible refine x_cI ?_ ?_); (first | exact True.intro | assumption)) | ((with_reducible refine x_cI2 ?_ ?_); (first | exact True.intro | assumption)) | ((with_reducible refine x_addL ?_ ?_); (first | (focus (show _ ≤ sizeLine; rw [sizeLine_eq]; simp; done)) | omega)) | ((with_reducible refine x_addT ?_ ?_); (first | (focus (show _ ≤ sizeLine; rw [sizeLine_eq]; simp; done)) | omega)) | ((with_reducible refine x_addS ?_ ?_); (first | (focus (show _ ≤ sizeLine; rw [sizeLine_eq]; simp; done)) | omega)) | ((with_reducible refine x_mod ?_ ?_); (first | omega | assumption)) | ((with_reducible refine x_fdiv ?_ ?_ ?_); (first | omega | assumption); (first | omega | assumption)) | ((with_reducible refine x_mul ?_ ?_); (first | (left; omega) | (right; omega))) | ((with_reducible refine x_pow ?_ ?_ ?_ ?_); decide; decide; decide; (try simp only [Int.reduceToNat, Int.reducePow])) | ((with_reducible refine x_and ?_ ?_); (first | (focus (show _ ≤ sizeLine; rw [sizeLine_eq]; simp; done)) | omega)) | ((with_reducible refine x_rrng1 ?_ ?_ ?_); omega; omega) | ((with_reducible refine x_iteT ?_ ?_); (first | omega | assumption)) | ((with_reducible refine x_iteF ?_ ?_); (first | omega | assumption)) | ((with_reducible refine x_iteNT ?_ ?_); (first | omega | assumption)) | ((with_reducible refine x_iteNF ?_ ?_); (first | omega | assumption)) | with_reducible refine L2.iteT ?_ | with_reducible refine L2.iteF ?_ | simp only [wset_wset] | ((with_reducible refine x_iteV ?_ ?_); focus (first | rfl | assumption)) | ((with_reducible refine x_iteW ?_ ?_); focus (first | rfl | assumption)) | ((with_reducible refine x_iteNV ?_ ?_); focus (first | rfl | assumption)) | ((with_reducible refine x_iteNW ?_ ?_); focus (first | rfl | assumption)) | ((with_reducible refine x_iteV ?_ ?_); focus (decide +kernel)) | ((with_reducible refine x_iteW ?_ ?_); focus (decide +kernel)) | ((with_reducible refine x_iteNV ?_ ?_); focus (decide +kernel)) | ((with_reducible refine x_iteNW ?_ ?_); focus (decide +kernel)))))
section
variable {P : Program} {w : World} {K : Frag} {mg : Str → Option Value} {base : Heap} {c0 pt : Addr}
theorem eq_enc {a b : Vl} {w : Wd} {Q : WQ} (h : Q (.bl (eqV a b)) w) : dEq (enc a) (enc b) w Q := by
  cases a with
  | num i =>
    cases b with
    | num j => simp only [enc]; walk_at "go"; exact h
    | txt t => simp only [enc]; refine x_eq (by simp [PV.pl]) (by simp [PV.pl]) (by simp [PV.dep]) ?_; simp only [PV.eqb]; exact h
  | txt s =>
    cases b with
    | num j => simp only [enc]; refine x_eq (by simp [PV.pl]) (by simp [PV.pl]) (by simp [PV.dep]) ?_; simp only [PV.eqb]; exact h
    | txt t => simp only [enc]; walk_at "go"; exact h
theorem comp_gr {α : Type} {i : Nat} {te : WE} {ρ : Sl} {k : List PV → Wd → Prop} (g f : α → PV) : ∀ (xs : List α) (acc : List PV) (w : Wd), (∀ x ∈ xs, ∀ w1, Grow w w1 → ∀ Q : WQ, (∀ w2, Grow w1 w2 → Q (f x) w2) → te (ρ.set i (some (g x))) w1 Q) → (∀ w1, Grow w w1 → k (acc ++ xs.map f) w1) → compD (wName i) wYes te ρ k (xs.map g) acc w
  | [], acc, w, _, h => by have := h w (Grow.refl w); simpa [compD] using this
  | d :: r, acc, w, he, h => by
    simp only [List.map_cons, compD, wName, wYes, if_true]
    refine he d List.mem_cons_self w (Grow.refl w) _ fun w2 g2 => ?_
    exact comp_gr g f r _ w2 (fun x hx w1 g1 => he x (List.mem_cons_of_mem _ hx) w1 (g2.trans g1)) fun w1 g1 => by have := h w1 (g2.trans g1); simpa using this
def qOfV (N : Nat) : PSp := fun ds w Q => ∃ p kvs n v, ds = [.ref p, .str n, enc v] ∧ w p = some (.dct kvs) ∧ FldOk okv kvs ∧ nameS n = true ∧ VOk v ∧ ∀ w', Grow w w' → Q (.bl true) w'
def n1 : Bool → Int
  | true => 1
  | false => 0
theorem tri (v o : Vl) (h : isN v = isN o) : n1 (Ft.eqV v o) + n1 (bef v o) + n1 (bef o v) = 1 := by
  cases v with
  | num i =>
    cases o with
    | num j =>
      have e1 : Ft.eqV (.num i) (.num j) = decide (i = j) := rfl
      have e2 : bef (.num i) (.num j) = decide (i < j) := rfl
      have e3 : bef (.num j) (.num i) = decide (j < i) := rfl
      rw [e1, e2, e3]
      rcases Int.lt_trichotomy i j with c | c | c
      · rw [decide_eq_false (by omega : ¬ i = j), decide_eq_true c, decide_eq_false (by omega : ¬ j < i)]; rfl
      · subst c; rw [decide_eq_true rfl, decide_eq_false (by omega : ¬ i < i)]; rfl
      · rw [decide_eq_false (by omega : ¬ i = j), decide_eq_false (by omega : ¬ i < j), decide_eq_true c]; rfl
    | txt t => simp [isN] at h
  | txt s =>
    cases o with
    | num j => simp [isN] at h
    | txt t =>
      have e1 : Ft.eqV (.txt s) (.txt t) = decide (s = t) := rfl
      have e2 : bef (.txt s) (.txt t) = decide (s.cps.toList < t.cps.toList) := rfl
      have e3 : bef (.txt t) (.txt s) = decide (t.cps.toList < s.cps.toList) := rfl
      rw [e1, e2, e3]
      by_cases c : s = t
      · subst c; rw [decide_eq_true rfl, decide_eq_false (List.lt_irrefl _)]; rfl
      · rw [decide_eq_false c]
        by_cases d : s.cps.toList < t.cps.toList
        · rw [decide_eq_true d, decide_eq_false (List.lt_asymm d)]; rfl
        · have : t.cps.toList < s.cps.toList := Decidable.byContradiction fun z => c (Vy.str_ext (List.le_antisymm (List.not_lt.mp z) (List.not_lt.mp d)))
          rw [decide_eq_false d, decide_eq_true this]; rfl
theorem cnt3 {a b c : Bool} {w : Wd} {Q : WQ} (h : Q (.int (n1 a + n1 b + n1 c)) w) : mCount (.lst [.bl a, .bl b, .bl c]) [.bl true] w Q := by
  refine x_count (by simp [PV.pl]) (by simp [PV.pl, PV.pls]) (by simp [PV.dep]) ?_
  cases a <;> cases b <;> cases c <;> simpa [PV.eqb, n1] using h
theorem eq3 {a b c : Bool} {w : Wd} {Q : WQ} (h : Q (.bl true) w) : dEq (.lst [.bl a, .bl b, .bl c]) (.lst [.bl a, .bl b, .bl c]) w Q :=
  x_eq (by simp [PV.pl, PV.pls]) (by simp [PV.pl, PV.pls]) (by simp [PV.dep, PV.deps]) (by rw [PV.eqb_refl _ (by simp [PV.pl, PV.pls])]; exact h)
local macro_rules | `(tactic| walk_at "call") => `(tactic| first | with_reducible refine x_inX (by assumption) ?_ | with_reducible refine x_ninX (by assumption) ?_)
theorem ok_ofv (T : Tx K mg c0) (N : Nat) : FD P w K mg base "_law_of_value" (N + 7) (qOfV N) := fd__law_of_value T (ok_bef T) (by omega) (ok_fits T (N + 1)) (by omega) (ok_lisn T) (by omega) (by rintro ds w Q ⟨p, kvs, n, v, rfl, _⟩; rfl) (by
  rintro d0 d1 d2 w' Q ⟨p, kvs, n, v, e, hw, hk, hn, hv, h⟩
  cases e
  unfold rd__law_of_value
  walk_at "go"
  refine x_and (by rw [sizeLine_eq]; simp) ?_
  walk_at "go"
  refine ⟨.cmp .is n v, kvs, by simp only [Tst.dp]; omega, hk, ⟨hn, hv⟩, .inl ⟨p, rfl, hw⟩, fun w1a g1a => ?_⟩
  walk_at "go"
  refine x_and (by rw [sizeLine_eq]; simp) ?_
  walk_at "go"
  refine ⟨.cmp .under n v, kvs, by simp only [Tst.dp]; omega, hk, ⟨hn, hv⟩, .inl ⟨p, rfl, g1a _ _ hw⟩, fun w1b g1b => ?_⟩
  walk_at "go"
  refine x_and (by rw [sizeLine_eq]; simp) ?_
  walk_at "go"
  refine ⟨.cmp .over n v, kvs, by simp only [Tst.dp]; omega, hk, ⟨hn, hv⟩, .inl ⟨p, rfl, g1b _ _ (g1a _ _ hw)⟩, fun w1 g1c => ?_⟩
  · have g1 := (g1a.trans g1b).trans g1c
    dsimp only
    rw [compD]
    simp only [List.nil_append, List.cons_append]
    have hw1 := g1 _ _ hw
    walk_at "go"
    cases e : getP kvs (.inr n) with
    | none =>
      have ec : ∀ c, fitT kvs (.cmp c n v) = false := fun c => by simp only [fitT, e]
      simp only [ec]
      walk_at "go"
      refine cnt3 ?_
      rw [show n1 false + n1 false + n1 false = 0 from rfl]
      walk_at "go"
      refine ⟨.has n, kvs, by simp only [Tst.dp]; omega, hk, hn, .inl ⟨p, rfl, hw1⟩, fun w2 g2 => ?_⟩
      have hw2 := g2 _ _ hw1
      simp only [fitT, e]
      walk_at "go"
      rw [e]
      walk_at "go"
      exact h _ (g1.trans g2)
    | some d =>
      obtain ⟨u, rfl, hu⟩ := getP_okv hk e
      have ec : ∀ c, fitT kvs (.cmp c n v) = holds c u v := fun c => by simp only [fitT, e, toV_enc]
      simp only [ec]
      walk_at "go"
      refine x_ixX hw1 e ?_
      walk_at "go"
      refine ⟨u, rfl, ?_⟩
      walk_at "go"
      refine ⟨v, rfl, ?_⟩
      by_cases q : isN u = isN v
      · have eh : ∀ c, holds c u v = hol c u v := fun c => holds_same q
        simp only [eh, hol]
        rw [q]
        refine x_eqB ?_
        rw [show (isN v == isN v) = true from by simp]
        walk_at "go"
        refine cnt3 ?_
        rw [tri u v q]
        walk_at "go"
        refine ⟨.has n, kvs, by simp only [Tst.dp]; omega, hk, hn, .inl ⟨p, rfl, hw1⟩, fun w2 g2 => ?_⟩
        have hw2 := g2 _ _ hw1
        simp only [fitT, e]
        walk_at "go"
        rw [e]
        walk_at "go"
        refine x_ixX hw2 e ?_
        walk_at "go"
        refine eq_enc ?_
        walk_at "go"
        refine ⟨u, v, rfl, hu.ok, hv, ?_⟩
        walk_at "go"
        refine ⟨v, u, rfl, hv, hu.ok, ?_⟩
        walk_at "go"
        exact eq3 (h _ (g1.trans g2))
      · have eh : ∀ c, holds c u v = false := fun c => holds_not q
        simp only [eh]
        refine x_eqB ?_
        rw [show (isN u == isN v) = false from by simpa using q]
        walk_at "go"
        refine cnt3 ?_
        rw [show n1 false + n1 false + n1 false = 0 from rfl]
        walk_at "go"
        refine ⟨.has n, kvs, by simp only [Tst.dp]; omega, hk, hn, .inl ⟨p, rfl, hw1⟩, fun w2 g2 => ?_⟩
        have hw2 := g2 _ _ hw1
        simp only [fitT, e]
        walk_at "go"
        rw [e]
        walk_at "go"
        exact h _ (g1.trans g2))
end
end Lw

namespace Lw
open PySem L2 Pd Vy Fl Ft
local macro_rules | `(tactic| walk_at "call") => `(tactic| fail "none")
local macro_rules | `(tactic| walk_at "go") => `(tactic| (repeat (first | with_reducible refine Stp.go ?_ | dsimp only [List.set] | (walk_at "call") | with_reducible refine x_rixr (by first | assumption | exact wset_same) ?_ | with_reducible refine x_lenR (by first | assumption | exact wset_same) ?_ | ((with_reducible refine x_rsubc (by first | assumption | exact wset_same) ?_ ?_); (first | (focus (simp; done)) | (focus (simp; omega)))) | ((with_reducible refine x_gtup ?_ ?_); (first | rfl | (focus (simp; done)))) | ((with_reducible refine x_cI ?_ ?_); (first | exact True.intro | assumption)) | ((with_reducible refine x_cI2 ?_ ?_); (first | exact True.intro | assumption)) | ((with_reducible refine x_addL ?_ ?_); (first | (focus (show _ ≤ sizeLine; rw [sizeLine_eq]; simp; done)) | omega)) | ((with_reducible refine x_addT ?_ ?_); (first | (focus (show _ ≤ sizeLine; rw [sizeLine_eq]; simp; done)) | omega)) | ((with_reducible refine x_addS ?_ ?_); (first | (focus (show _ ≤ sizeLine; rw [sizeLine_eq]; simp; done)) | omega)) | ((with_reducible refine x_mod ?_ ?_); (first | omega | assumption)) | ((with_reducible refine x_fdiv ?_ ?_ ?_); (first | omega | assumption); (first | omega | assumption)) | ((with_reducible refine x_mul ?_ ?_); (first | (left; omega) | (right; omega))) | ((with_reducible refine x_pow ?_ ?_ ?_ ?_); decide; decide; decide; (try simp only [Int.reduceToNat, Int.reducePow])) | ((with_reducible refine x_and ?_ ?_); (first | (focus (show _ ≤ sizeLine; rw [sizeLine_eq]; simp; done)) | omega)) | ((with_reducible refine x_rrng1 ?_ ?_ ?_); omega; omega) | ((with_reducible refine x_iteT ?_ ?_); (first | omega | assumption)) | ((with_reducible refine x_iteF ?_ ?_); (first | omega | assumption)) | ((with_reducible refine x_iteNT ?_ ?_); (first | omega | assumption)) | ((with_reducible refine x_iteNF ?_ ?_); (first | omega | assumption)) | with_reducible refine L2.iteT ?_ | with_reducible refine L2.iteF ?_ | simp only [wset_wset] | ((with_reducible refine x_iteV ?_ ?_); focus (first | rfl | assumption)) | ((with_reducible refine x_iteW ?_ ?_); focus (first | rfl | assumption)) | ((with_reducible refine x_iteNV ?_ ?_); focus (first | rfl | assumption)) | ((with_reducible refine x_iteNW ?_ ?_); focus (first | rfl | assumption)) | ((with_reducible refine x_iteV ?_ ?_); focus (decide +kernel)) | ((with_reducible refine x_iteW ?_ ?_); focus (decide +kernel)) | ((with_reducible refine x_iteNV ?_ ?_); focus (decide +kernel)) | ((with_reducible refine x_iteNW ?_ ?_); focus (decide +kernel)))))
section
variable {P : Program} {w : World} {K : Frag} {mg : Str → Option Value} {base : Heap} {c0 pt : Addr}
/-- but for a all that stood stands -/
def FrG (a : Addr) (w w' : Wd) : Prop := ∀ b m, b ≠ a → w b = some m → w' b = some m
theorem FrG.refl (a : Addr) (w : Wd) : FrG a w w := fun _ _ _ h => h
theorem FrG.trans {a : Addr} {w w1 w2 : Wd} (h : FrG a w w1) (h' : FrG a w1 w2) : FrG a w w2 := fun b m hb hm => h' b m hb (h b m hb hm)
theorem Frm.g {a : Addr} {w w' : Wd} (h : Frm a w w') : FrG a w w' := fun b m hb hm => by rw [h b hb]; exact hm
theorem Grow.g {a : Addr} {w w' : Wd} (h : Grow w w') : FrG a w w' := fun b m _ hm => h b m hm
theorem Hand.gr {w w' : Wd} {a : Addr} {f : Nat} (h : Hand w a f) (g : Grow w w') : Hand w' a f := by
  obtain ⟨m, h1, h2⟩ := h
  exact ⟨m, g _ _ h1, h2⟩
/-- the fields at p -/
structure Flds (w : Wd) (p : Addr) (kvs : List (Key × PV)) : Prop where
  at_ : w p = some (.dct kvs)
  ok : FldOk okv kvs
  nm : ∀ kv ∈ kvs, ∃ n, kv.1 = .inr n ∧ nameS n = true
  ln : kvs.length ≤ 9
theorem Flds.g {w w' : Wd} {a p : Addr} {kvs : List (Key × PV)} (h : Flds w p kvs) (np : p ≠ a) (g : FrG a w w') : Flds w' p kvs := ⟨g _ _ np h.at_, h.ok, h.nm, h.ln⟩
/-- what stands all the while -/
structure Std (w : Wd) (a pt : Addr) (f : Nat) : Prop where
  hd : Hand w a f
  tb : w pt = some (.tab qn)
theorem Std.nt {w : Wd} {a pt : Addr} {f : Nat} (h : Std w a pt f) : pt ≠ a := fun e => by
  obtain ⟨m, h1, cs, p, c, n, e2, _⟩ := h.hd
  rw [← e, h.tb] at h1; cases h1; cases e2
theorem Std.fg {w w' : Wd} {a pt : Addr} {f g : Nat} (h : Std w a pt f) (hf : FrG a w w') (hH : Hand w' a g) : Std w' a pt g := ⟨hH, hf _ _ h.nt h.tb⟩
theorem Std.gr {w w' : Wd} {a pt : Addr} {f : Nat} (h : Std w a pt f) (g : Grow w w') : Std w' a pt f := ⟨h.hd.gr g, g _ _ h.tb⟩
theorem ne_bl {b : Bool} {w : Wd} {Q : WQ} (h : Q (.bl false) w) : dNe (.bl b) (.bl b) w Q := x_ne (by simp [PV.pl]) (by simp [PV.pl]) (by simp [PV.dep]) (by simpa [PV.eqb] using h)
theorem ne2 {a b : Bool} {w : Wd} {Q : WQ} (h : Q (.bl false) w) : dNe (.lst [.bl a, .bl b]) (.lst [.bl a, .bl b]) w Q :=
  x_ne (by simp [PV.pl, PV.pls]) (by simp [PV.pl, PV.pls]) (by simp [PV.dep, PV.deps]) (by rw [PV.eqb_refl _ (by simp [PV.pl, PV.pls])]; exact h)
theorem pls_bl : ∀ bs : List Bool, PV.pls (bs.map PV.bl) = true
  | [] => by simp [PV.pls]
  | b :: r => by simp [PV.pls, PV.pl, pls_bl r]
theorem any_bl (c : Bool) : ∀ bs : List Bool, ((bs.map PV.bl).any fun e => PV.eqb e (.bl c)) = bs.any fun b => b == c
  | [] => rfl
  | b :: r => by rw [List.map_cons, List.any_cons, List.any_cons, any_bl c r]; cases b <;> cases c <;> simp [PV.eqb]
theorem x_inB {c : Bool} {bs : List Bool} {w : Wd} {Q : WQ} (h : Q (.bl (bs.any fun b => b == c)) w) : dIn false (.bl c) (.lst (bs.map PV.bl)) w Q := by
  refine ⟨⟨by simp [PV.pl], pls_bl bs, by simp [PV.dep]⟩, ?_⟩
  show Q (.bl ((bs.map PV.bl).any fun e => PV.eqb e (.bl c))) w
  rw [any_bl]; exact h
theorem x_ninB {c : Bool} {bs : List Bool} {w : Wd} {Q : WQ} (h : Q (.bl (!bs.any fun b => b == c)) w) : dIn true (.bl c) (.lst (bs.map PV.bl)) w Q := by
  refine ⟨⟨by simp [PV.pl], pls_bl bs, by simp [PV.dep]⟩, ?_⟩
  show Q (.bl (!(bs.map PV.bl).any fun e => PV.eqb e (.bl c))) w
  rw [any_bl]; exact h
/-- fits of fields at p, or of told ones -/
theorem f_ref {N : Nat} {t : Tst} {p : Addr} {kvs : List (Key × PV)} {w : Wd} {Q : WQ} (hd : t.dp ≤ N) (ht : TOk t) (F : Flds w p kvs) (h : ∀ w', Grow w w' → Q (.bl (fitT kvs t)) w') : qFits N [encT t, .ref p] w Q := ⟨t, kvs, hd, F.ok, ht, .inl ⟨p, rfl, F.at_⟩, h⟩
theorem f_told {N : Nat} {t : Tst} {p : Addr} {kvs : List (Key × PV)} {w : Wd} {Q : WQ} (hd : t.dp ≤ N) (ht : TOk t) (F : Flds w p kvs) (h : ∀ w', Grow w w' → Q (.bl (fitT kvs t)) w') : qFits N [encT t, .tpl (told kvs)] w Q := ⟨t, kvs, hd, F.ok, ht, .inr rfl, h⟩
theorem ok_law (T : Tx K mg c0) (TB : LamX.TabB base mg c0 pt) {fa : Addr} {fd : FuncData} (F : Fun K "law" "law" s_law fa fd) : FnOk P w K mg base CX0 40 fa fd ["_law_script"] (upSp ⟨P, w, K⟩ (pLawT pt qn)) :=
  fn_law T F (ok_test T 20) (by decide) (ok_join T) (by decide) (ok_fits T 20) (by decide) (ok_draw T) (by decide) (ok_mtest T 4) (by decide) (ok_told T TB) (by decide) (ok_ofv T 10) (by decide) (ok_val T) (by decide) (ok_word T) (by decide) (ok_fields T) (by decide) (ok_hand T) (by decide) (by rintro ds w Q ⟨ns, rfl, _⟩; rfl) (by
  rintro d0 w' Q ⟨ns, e, hlen, rfl, h⟩
  cases e
  unfold rd_law
  walk_at "go"
  refine ⟨ns, rfl, fun a m ha hm => ?_⟩
  have nt : pt ≠ a := fun z => by rw [← z] at ha; unfold wTab at ha; rw [if_pos rfl] at ha; cases ha
  walk_at "go"
  have tf3 : tf 3 = 300 := by decide
  have tf1 : tf 1 = 60 := by decide
  refine for_ind (fun rest ρ w1 => ∃ o2 o3 o4 o5 o6 o7 o8 o9 o10 o11 o12 o13, ρ = [some (.scr (ns.map PV.int)), some (.ref a), o2, o3, o4, o5, o6, o7, o8, o9, o10, o11, o12, o13, none, none] ∧ Std w1 a pt (3000 * rest.length)) ?_ ?_ _ _ _ ⟨_, _, _, _, _, _, _, _, _, _, _, _, rfl, ⟨Hand.le (f := 2 ^ 39) ⟨m, wset_same, hm⟩ (by rw [nums_length]; decide), by rw [wset_ne nt]; unfold wTab; rw [if_pos rfl]⟩⟩
  · rintro ρ w1 ⟨o2, o3, o4, o5, o6, o7, o8, o9, o10, o11, o12, o13, rfl, S⟩
    walk_at "go"
    exact h _
  · rintro d r ρ w1 N hN ⟨o2, o3, o4, o5, o6, o7, o8, o9, o10, o11, o12, o13, rfl, S⟩
    simp only [List.length_cons] at S
    walk_at "go"
    refine ⟨a, 9, 3000 * r.length + 2800, rfl, by omega, by omega, S.hd.le (by omega), fun p kvs w2 hp hk hks hl hw2 hfr hH2 => ?_⟩
    have np : p ≠ a := S.hd.ne hp
    have S2 : Std w2 a pt (3000 * r.length + 2800) := ⟨hH2, by rw [hfr pt S.nt (fun z => by have := S.tb; rw [z, hp] at this; cases this)]; exact S.tb⟩
    have F2 : Flds w2 p kvs := ⟨hw2, hk, hks, hl⟩
    clear hfr
    walk_at "go"
    obtain ⟨ks, hks2⟩ := hk.names
    have lks : ks.length = kvs.length := by have := congrArg List.length hks2; simpa using this.symm
    refine x_onDctE hw2 ⟨ks, hks2, by omega, fun ys hperm _ => ?_⟩
    have lys := hperm.length_eq
    walk_at "go"
    refine ⟨a, 3000 * r.length + 2790, rfl, S2.hd.le (by omega), fun dn w3 hdn hH3 hf3 => ?_⟩
    obtain ⟨z, rfl, hz⟩ := nm_str hdn
    have S3 := S2.fg hf3.g hH3
    have F3 := F2.g np hf3.g
    walk_at "go"
    refine x_addL (by rw [sizeLine_eq]; simp; omega) ?_
    walk_at "go"
    refine x_onDctE F3.at_ ?_
    walk_at "go"
    refine ⟨a, _, 3000 * r.length + 2780, rfl, by omega, by omega, S3.hd.le (by omega), fun i w4 hi0 hi1 hH4 hf4 => ?_⟩
    have S4 := S3.fg hf4.g hH4
    have F4 := F3.g np hf4.g
    refine x_ixMem hi0 (by simp; omega) fun dx hdx => ?_
    obtain ⟨n, rfl, hn⟩ : ∃ n, dx = .str n ∧ nameS n = true := by
      rcases List.mem_append.mp hdx with q | q
      · obtain ⟨y, hy, rfl⟩ := List.mem_map.mp q
        obtain ⟨kv, hkv, e⟩ := List.mem_map.mp (show (Sum.inr y : Key) ∈ kvs.map (·.1) by rw [hks2]; exact List.mem_map.mpr ⟨y, hperm.mem_iff.mp hy, rfl⟩)
        obtain ⟨n, e2, hn⟩ := hks kv hkv
        rw [e] at e2; cases e2
        exact ⟨y, rfl, hn⟩
      · cases List.mem_singleton.mp q; exact ⟨z, rfl, hz⟩
    clear hdx
    walk_at "go"
    refine ⟨a, 3000 * r.length + 2770, rfl, S4.hd.le (by omega), fun v w5 hv hH5 hf5 => ?_⟩
    have S5 := S4.fg hf5.g hH5
    have F5 := F4.g np hf5.g
    walk_at "go"
    refine ⟨x_onDctE F5.at_ True.intro, ?_⟩
    walk_at "go"
    refine x_onDctE F5.at_ ⟨.inr n, rfl, ?_⟩
    obtain ⟨u, hu1, hu2⟩ : ∃ u : Vl, (getP kvs (.inr n)).getD (.int 0) = enc u ∧ VOk u := by
      cases e : getP kvs (.inr n) with
      | none => exact ⟨.num 0, rfl, True.intro⟩
      | some dd =>
        obtain ⟨u, rfl, hu⟩ := getP_okv hk e
        exact ⟨u, rfl, hu.ok⟩
    rw [hu1]
    walk_at "go"
    refine ⟨a, 2, 3000 * r.length + 2760, rfl, by omega, by omega, S5.hd.le (by omega), fun i2 w6 hi2 hi3 hH6 hf6 => ?_⟩
    have S6 := S5.fg hf6.g hH6
    have F6 := F5.g np hf6.g
    refine x_ixMem hi2 (by simpa using hi3) fun dy hdy => ?_
    obtain ⟨y, rfl, hy⟩ : ∃ y : Vl, dy = enc y ∧ VOk y := by
      simp only [List.mem_cons, List.not_mem_nil, or_false] at hdy
      rcases hdy with rfl | rfl
      · exact ⟨v, rfl, hv.ok⟩
      · exact ⟨u, rfl, hu2⟩
    clear hdy
    walk_at "go"
    refine ⟨p, kvs, n, y, rfl, F6.at_, hk, hn, hy, fun w7 g7 => ?_⟩
    have S7 := S6.gr g7
    have F7 := F6.g np g7.g
    walk_at "go"
    refine ⟨3, by omega, a, 3000 * r.length + 2400, rfl, S7.hd.le (by omega), fun t1 w8 hd1 ht1 hH8 hf8 => ?_⟩
    have S8 := S7.fg hf8.g hH8
    have F8 := F7.g np hf8.g
    walk_at "go"
    refine ⟨3, by omega, a, 3000 * r.length + 2000, rfl, S8.hd.le (by omega), fun t2 w9 hd2 ht2 hH9 hf9 => ?_⟩
    have S9 := S8.fg hf9.g hH9
    have F9 := F8.g np hf9.g
    walk_at "go"
    refine ⟨S9.tb, kvs, hk, .inl ⟨p, rfl, F9.at_⟩, fun w10 g10 => ?_⟩
    have S10 := S9.gr g10
    have F10 := F9.g np g10.g
    walk_at "go"
    refine x_and (by rw [sizeLine_eq]; simp) ?_
    dsimp only [wipeD, List.set]
    walk_at "go"
    refine f_told (N := 20) (t := .nt t1) (by simp only [Tst.dp]; omega) ht1 F10 fun w11a g11a => ?_
    walk_at "go"
    refine x_and (by rw [sizeLine_eq]; simp) ?_
    dsimp only [wipeD, List.set]
    walk_at "go"
    refine f_told (N := 20) (t := .nt t2) (by simp only [Tst.dp]; omega) ht2 (F10.g np g11a.g) fun w11 g11b => ?_
    · have g11 := g11a.trans g11b
      try dsimp only
      rw [compD]
      simp only [List.nil_append, List.cons_append, fitT]
      have S11 := S10.gr g11
      have F11 := F10.g np g11.g
      walk_at "go"
      refine f_ref (N := 20) (by omega) ht1 F11 fun w12 g12 => ?_
      have S12 := S11.gr g12
      have F12 := F11.g np g12.g
      walk_at "go"
      refine f_ref (N := 20) (by omega) ht2 F12 fun w13 g13 => ?_
      have S13 := S12.gr g13
      have F13 := F12.g np g13.g
      walk_at "go"
      refine ne2 ?_
      walk_at "go"
      refine f_ref (N := 20) (t := .nt (.both t1 t2)) (by simp only [Tst.dp]; omega) ⟨ht1, ht2⟩ F13 fun w14 g14 => ?_
      have S14 := S13.gr g14
      have F14 := F13.g np g14.g
      walk_at "go"
      refine f_ref (N := 20) (t := .either (.nt t1) (.nt t2)) (by simp only [Tst.dp]; omega) ⟨ht1, ht2⟩ F14 fun w15 g15 => ?_
      have S15 := S14.gr g15
      have F15 := F14.g np g15.g
      rw [show fitT kvs (.either (.nt t1) (.nt t2)) = fitT kvs (.nt (.both t1 t2)) from by simp only [fitT, Bool.not_and]]
      refine ne_bl ?_
      walk_at "go"
      refine f_ref (N := 20) (t := .nt (.either t1 t2)) (by simp only [Tst.dp]; omega) ⟨ht1, ht2⟩ F15 fun w16 g16 => ?_
      have S16 := S15.gr g16
      have F16 := F15.g np g16.g
      walk_at "go"
      refine f_ref (N := 20) (t := .both (.nt t1) (.nt t2)) (by simp only [Tst.dp]; omega) ⟨ht1, ht2⟩ F16 fun w17 g17 => ?_
      have S17 := S16.gr g17
      have F17 := F16.g np g17.g
      rw [show fitT kvs (.both (.nt t1) (.nt t2)) = fitT kvs (.nt (.either t1 t2)) from by simp only [fitT, Bool.not_or]]
      refine ne_bl ?_
      walk_at "go"
      refine ⟨a, 7, 3000 * r.length + 1900, rfl, by omega, by omega, S17.hd.le (by omega), fun i4 w18 hi4 hi5 hH18 hf18 => ?_⟩
      have S18 := S17.fg hf18.g hH18
      have F18 := F17.g np hf18.g
      walk_at "go"
      refine x_and (by rw [nums_length, sizeLine_eq]; omega) ?_
      refine comp_ind (fun rest acc w3 => Std w3 a pt (3000 * r.length + 100 * rest.length) ∧ Flds w3 p kvs ∧ ∃ ts : List Tst, acc = ts.map encT ∧ (∀ t ∈ ts, TOk t ∧ t.dp ≤ 4) ∧ ts.length + rest.length = (1 + i4).toNat) ?_ ?_ _ [] w18 ⟨S18.fg (FrG.refl _ _) (S18.hd.le (by rw [nums_length]; omega)), F18, [], rfl, (fun _ h => nomatch h), by rw [nums_length]; simp⟩
      · rintro acc w19 ⟨S19, F19, ts, rfl, hts, hlen2⟩
        simp only [List.length_nil, Nat.add_zero] at hlen2
        walk_at "go"
        refine x_and (by rw [List.length_map, sizeLine_eq]; omega) ?_
        refine comp_gr encT (fun t => .bl (fitT kvs t)) ts [] w19 (fun t htt w1 g1 Q' hQ => ?_) fun w20 g20 => ?_
        · dsimp only [wipeD, List.set]
          walk_at "go"
          exact f_ref (Nat.le_trans (hts t htt).2 (by omega)) (hts t htt).1 (F19.g np g1.g) hQ
        · rw [List.nil_append, show (ts.map fun t => PV.bl (fitT kvs t)) = (ts.map (fitT kvs)).map PV.bl from by rw [List.map_map]; rfl]
          have S20 := S19.gr g20
          have F20 := F19.g np g20.g
          cases ts with
          | nil => simp at hlen2; omega
          | cons t0 ts =>
            simp only [List.length_cons] at hlen2
            walk_at "go"
            refine ⟨.both, t0, ts, rfl, by omega, hts, fun u1 hu1' hud1 hf1 => ?_⟩
            walk_at "go"
            refine f_told (N := 20) (by omega) hu1' F20 fun w21 g21 => ?_
            have S21 := S20.gr g21
            have F21 := F20.g np g21.g
            walk_at "go"
            refine x_ninB ?_
            rw [show (!(List.map (fitT kvs) (t0 :: ts)).any fun b => b == false) = fitT kvs u1 from by
              rw [hf1 kvs, both_all, List.map_cons, List.any_cons, Bool.not_or]
              congr 1
              · cases fitT kvs t0 <;> rfl
              · generalize ts.map (fitT kvs) = bs
                induction bs with
                | nil => rfl
                | cons b q ih => rw [List.any_cons, List.all_cons, Bool.not_or, ih]; cases b <;> rfl]
            refine ne_bl ?_
            walk_at "go"
            refine ⟨.either, t0, ts, rfl, by omega, hts, fun u2 hu2' hud2 hf2 => ?_⟩
            walk_at "go"
            refine f_told (N := 20) (by omega) hu2' F21 fun w22 g22 => ?_
            have S22 := S21.gr g22
            have F22 := F21.g np g22.g
            walk_at "go"
            refine x_inB ?_
            rw [show ((List.map (fitT kvs) (t0 :: ts)).any fun b => b == true) = fitT kvs u2 from by
              rw [hf2 kvs, either_any, List.map_cons, List.any_cons]
              congr 1
              · cases fitT kvs t0 <;> rfl
              · generalize ts.map (fitT kvs) = bs
                induction bs with
                | nil => rfl
                | cons b q ih => rw [List.any_cons, List.any_cons, ih]; cases b <;> rfl]
            refine ne_bl ?_
            walk_at "go"
            refine ⟨.both, t0, ts, rfl, by omega, hts, fun u3 hu3' hud3 hf3 => ?_⟩
            walk_at "go"
            refine ⟨u3, rfl, by omega, hu3', ?_⟩
            walk_at "go"
            refine ⟨.nt t1, rfl, by simp only [Tst.dp]; omega, ht1, ?_⟩
            walk_at "go"
            exact hN _ _ ⟨_, _, _, _, _, _, _, _, _, _, _, _, rfl, S22.fg (FrG.refl _ _) (S22.hd.le (by simp))⟩
      · rintro dk rk acc w19 N2 hN2 ⟨S19, F19, ts, rfl, hts, hlen2⟩
        simp only [List.length_cons] at S19 hlen2
        dsimp only [wName, wYes, wipeD, List.set]
        walk_at "go"
        refine ⟨1, by omega, a, 3000 * r.length + 100 * rk.length, rfl, S19.hd.le (by omega), fun t w20 hd3 ht3 hH20 hf20 => ?_⟩
        refine hN2 _ _ ⟨S19.fg hf20.g hH20, F19.g np hf20.g, ts ++ [t], by simp, fun x hx => ?_, by simp; omega⟩
        rcases List.mem_append.mp hx with q | q
        · exact hts x q
        · cases List.mem_singleton.mp q; exact ⟨ht3, by omega⟩)
end
end Lw

namespace Lw
open PySem L2 Pd
theorem all_mk (cX : Addr) {K : Frag} {h : Heap} {mg : Str → Option Value} (X : K.In h) (G : h.Ns mainGlobals mg)
    {f0 : Addr} {oc0 kV0 dc0 pm0 cd0 ct0 : Value} {od0 an0 : Option Addr} {sl0 : Array (Option Value)}
    {f1 : Addr} {oc1 kV1 dc1 pm1 cd1 ct1 : Value} {od1 an1 : Option Addr} {sl1 : Array (Option Value)}
    {f2 : Addr} {oc2 kV2 dc2 pm2 cd2 ct2 : Value} {od2 an2 : Option Addr} {sl2 : Array (Option Value)}
    {f3 : Addr} {oc3 kV3 dc3 pm3 cd3 ct3 : Value} {od3 an3 : Option Addr} {sl3 : Array (Option Value)}
    {f4 : Addr} {oc4 kV4 dc4 pm4 cd4 ct4 : Value} {od4 an4 : Option Addr} {sl4 : Array (Option Value)}
    {f5 : Addr} {oc5 kV5 dc5 pm5 cd5 ct5 : Value} {od5 an5 : Option Addr} {sl5 : Array (Option Value)}
    {f6 : Addr} {oc6 kV6 dc6 pm6 cd6 ct6 : Value} {od6 an6 : Option Addr} {sl6 : Array (Option Value)}
    {f7 : Addr} {oc7 kV7 dc7 pm7 cd7 ct7 : Value} {od7 an7 : Option Addr} {sl7 : Array (Option Value)}
    {f8 : Addr} {oc8 kV8 dc8 pm8 cd8 ct8 : Value} {od8 an8 : Option Addr} {sl8 : Array (Option Value)}
    {f9 : Addr} {oc9 kV9 dc9 pm9 cd9 ct9 : Value} {od9 an9 : Option Addr} {sl9 : Array (Option Value)}
    {f10 : Addr} {oc10 kV10 dc10 pm10 cd10 ct10 : Value} {od10 an10 : Option Addr} {sl10 : Array (Option Value)}
    {f11 : Addr} {oc11 kV11 dc11 pm11 cd11 ct11 : Value} {od11 an11 : Option Addr} {sl11 : Array (Option Value)}
    {f12 : Addr} {oc12 kV12 dc12 pm12 cd12 ct12 : Value} {od12 an12 : Option Addr} {sl12 : Array (Option Value)}
    {f13 : Addr} {oc13 kV13 dc13 pm13 cd13 ct13 : Value} {od13 an13 : Option Addr} {sl13 : Array (Option Value)}
    {f14 : Addr} {oc14 kV14 dc14 pm14 cd14 ct14 : Value} {od14 an14 : Option Addr} {sl14 : Array (Option Value)}
    {f15 : Addr} {oc15 kV15 dc15 pm15 cd15 ct15 : Value} {od15 an15 : Option Addr} {sl15 : Array (Option Value)}
    {f16 : Addr} {oc16 kV16 dc16 pm16 cd16 ct16 : Value} {od16 an16 : Option Addr} {sl16 : Array (Option Value)}
    {f17 : Addr} {oc17 kV17 dc17 pm17 cd17 ct17 : Value} {od17 an17 : Option Addr} {sl17 : Array (Option Value)}
    {f18 : Addr} {oc18 kV18 dc18 pm18 cd18 ct18 : Value} {od18 an18 : Option Addr} {sl18 : Array (Option Value)}
    {f19 : Addr} {oc19 kV19 dc19 pm19 cd19 ct19 : Value} {od19 an19 : Option Addr} {sl19 : Array (Option Value)}
    {f20 : Addr} {oc20 kV20 dc20 pm20 cd20 ct20 : Value} {od20 an20 : Option Addr} {sl20 : Array (Option Value)}
    {f21 : Addr} {oc21 kV21 dc21 pm21 cd21 ct21 : Value} {od21 an21 : Option Addr} {sl21 : Array (Option Value)}
    {ga_COMPARING : Addr} {gd_COMPARING : Option Addr} {gn_COMPARING : Nat} {gs_COMPARING : Array (Option Value)} {gt_COMPARING_0 gt_COMPARING_1 gt_COMPARING_2 : Tok}
    {ga_JOINING : Addr} {gd_JOINING : Option Addr} {gn_JOINING : Nat} {gs_JOINING : Array (Option Value)} {gt_JOINING_0 gt_JOINING_1 : Tok}
    {gt_LETTERS : Tok}
    {gt_MOST_LETTERS : Tok}
    (a0 : PySem.W.nsIn K mainGlobals "is_number" = some (some (.ref f0))) (l0 : K.lookup f0 = some ⟨oc0, od0, .func (PySem.W.fnOf "is_number" "is_number" (defArgs s_is_number) (defBody s_is_number) (defScope s_is_number) .none kV0 dc0 pm0 an0 cd0 ct0), sl0⟩) (c0 : PySem.W.codeIn K cd0 "is_number" = true) (k0 : PySem.W.keepIn K (.ref f0) = true)
    (a1 : PySem.W.nsIn K mainGlobals "is_text" = some (some (.ref f1))) (l1 : K.lookup f1 = some ⟨oc1, od1, .func (PySem.W.fnOf "is_text" "is_text" (defArgs s_is_text) (defBody s_is_text) (defScope s_is_text) .none kV1 dc1 pm1 an1 cd1 ct1), sl1⟩) (c1 : PySem.W.codeIn K cd1 "is_text" = true) (k1 : PySem.W.keepIn K (.ref f1) = true)
    (a2 : PySem.W.nsIn K mainGlobals "is_name" = some (some (.ref f2))) (l2 : K.lookup f2 = some ⟨oc2, od2, .func (PySem.W.fnOf "is_name" "is_name" (defArgs s_is_name) (defBody s_is_name) (defScope s_is_name) .none kV2 dc2 pm2 an2 cd2 ct2), sl2⟩) (c2 : PySem.W.codeIn K cd2 "is_name" = true) (k2 : PySem.W.keepIn K (.ref f2) = true)
    (a3 : PySem.W.nsIn K mainGlobals "is_value" = some (some (.ref f3))) (l3 : K.lookup f3 = some ⟨oc3, od3, .func (PySem.W.fnOf "is_value" "is_value" (defArgs s_is_value) (defBody s_is_value) (defScope s_is_value) .none kV3 dc3 pm3 an3 cd3 ct3), sl3⟩) (c3 : PySem.W.codeIn K cd3 "is_value" = true) (k3 : PySem.W.keepIn K (.ref f3) = true)
    (a4 : PySem.W.nsIn K mainGlobals "before" = some (some (.ref f4))) (l4 : K.lookup f4 = some ⟨oc4, od4, .func (PySem.W.fnOf "before" "before" (defArgs s_before) (defBody s_before) (defScope s_before) .none kV4 dc4 pm4 an4 cd4 ct4), sl4⟩) (c4 : PySem.W.codeIn K cd4 "before" = true) (k4 : PySem.W.keepIn K (.ref f4) = true)
    (a5 : PySem.W.nsIn K mainGlobals "are_alike" = some (some (.ref f5))) (l5 : K.lookup f5 = some ⟨oc5, od5, .func (PySem.W.fnOf "are_alike" "are_alike" (defArgs s_are_alike) (defBody s_are_alike) (defScope s_are_alike) .none kV5 dc5 pm5 an5 cd5 ct5), sl5⟩) (c5 : PySem.W.codeIn K cd5 "are_alike" = true) (k5 : PySem.W.keepIn K (.ref f5) = true)
    (a6 : PySem.W.nsIn K mainGlobals "as_fields" = some (some (.ref f6))) (l6 : K.lookup f6 = some ⟨oc6, od6, .func (PySem.W.fnOf "as_fields" "as_fields" (defArgs s_as_fields) (defBody s_as_fields) (defScope s_as_fields) .none kV6 dc6 pm6 an6 cd6 ct6), sl6⟩) (c6 : PySem.W.codeIn K cd6 "as_fields" = true) (k6 : PySem.W.keepIn K (.ref f6) = true)
    (a7 : PySem.W.nsIn K mainGlobals "fields_told" = some (some (.ref f7))) (l7 : K.lookup f7 = some ⟨oc7, od7, .func (PySem.W.fnOf "fields_told" "fields_told" (defArgs s_fields_told) (defBody s_fields_told) (defScope s_fields_told) .none kV7 dc7 pm7 an7 cd7 ct7), sl7⟩) (c7 : PySem.W.codeIn K cd7 "fields_told" = true) (k7 : PySem.W.keepIn K (.ref f7) = true)
    (q7 : cd7 = .ref cX)
    (a8 : PySem.W.nsIn K mainGlobals "is_test" = some (some (.ref f8))) (l8 : K.lookup f8 = some ⟨oc8, od8, .func (PySem.W.fnOf "is_test" "is_test" (defArgs s_is_test) (defBody s_is_test) (defScope s_is_test) .none kV8 dc8 pm8 an8 cd8 ct8), sl8⟩) (c8 : PySem.W.codeIn K cd8 "is_test" = true) (k8 : PySem.W.keepIn K (.ref f8) = true)
    (a9 : PySem.W.nsIn K mainGlobals "holds_of" = some (some (.ref f9))) (l9 : K.lookup f9 = some ⟨oc9, od9, .func (PySem.W.fnOf "holds_of" "holds_of" (defArgs s_holds_of) (defBody s_holds_of) (defScope s_holds_of) .none kV9 dc9 pm9 an9 cd9 ct9), sl9⟩) (c9 : PySem.W.codeIn K cd9 "holds_of" = true) (k9 : PySem.W.keepIn K (.ref f9) = true)
    (a10 : PySem.W.nsIn K mainGlobals "fits_dict" = some (some (.ref f10))) (l10 : K.lookup f10 = some ⟨oc10, od10, .func (PySem.W.fnOf "fits_dict" "fits_dict" (defArgs s_fits_dict) (defBody s_fits_dict) (defScope s_fits_dict) .none kV10 dc10 pm10 an10 cd10 ct10), sl10⟩) (c10 : PySem.W.codeIn K cd10 "fits_dict" = true) (k10 : PySem.W.keepIn K (.ref f10) = true)
    (a11 : PySem.W.nsIn K mainGlobals "fits" = some (some (.ref f11))) (l11 : K.lookup f11 = some ⟨oc11, od11, .func (PySem.W.fnOf "fits" "fits" (defArgs s_fits) (defBody s_fits) (defScope s_fits) .none kV11 dc11 pm11 an11 cd11 ct11), sl11⟩) (c11 : PySem.W.codeIn K cd11 "fits" = true) (k11 : PySem.W.keepIn K (.ref f11) = true)
    (a12 : PySem.W.nsIn K mainGlobals "_law_hand" = some (some (.ref f12))) (l12 : K.lookup f12 = some ⟨oc12, od12, .func (PySem.W.fnOf "_law_hand" "_law_hand" (defArgs s__law_hand) (defBody s__law_hand) (defScope s__law_hand) .none kV12 dc12 pm12 an12 cd12 ct12), sl12⟩) (c12 : PySem.W.codeIn K cd12 "_law_hand" = true) (k12 : PySem.W.keepIn K (.ref f12) = true)
    (a13 : PySem.W.nsIn K mainGlobals "_law_draw" = some (some (.ref f13))) (l13 : K.lookup f13 = some ⟨oc13, od13, .func (PySem.W.fnOf "_law_draw" "_law_draw" (defArgs s__law_draw) (defBody s__law_draw) (defScope s__law_draw) .none kV13 dc13 pm13 an13 cd13 ct13), sl13⟩) (c13 : PySem.W.codeIn K cd13 "_law_draw" = true) (k13 : PySem.W.keepIn K (.ref f13) = true)
    (a14 : PySem.W.nsIn K mainGlobals "_law_word" = some (some (.ref f14))) (l14 : K.lookup f14 = some ⟨oc14, od14, .func (PySem.W.fnOf "_law_word" "_law_word" (defArgs s__law_word) (defBody s__law_word) (defScope s__law_word) .none kV14 dc14 pm14 an14 cd14 ct14), sl14⟩) (c14 : PySem.W.codeIn K cd14 "_law_word" = true) (k14 : PySem.W.keepIn K (.ref f14) = true)
    (a15 : PySem.W.nsIn K mainGlobals "_law_value" = some (some (.ref f15))) (l15 : K.lookup f15 = some ⟨oc15, od15, .func (PySem.W.fnOf "_law_value" "_law_value" (defArgs s__law_value) (defBody s__law_value) (defScope s__law_value) .none kV15 dc15 pm15 an15 cd15 ct15), sl15⟩) (c15 : PySem.W.codeIn K cd15 "_law_value" = true) (k15 : PySem.W.keepIn K (.ref f15) = true)
    (a16 : PySem.W.nsIn K mainGlobals "_law_fields" = some (some (.ref f16))) (l16 : K.lookup f16 = some ⟨oc16, od16, .func (PySem.W.fnOf "_law_fields" "_law_fields" (defArgs s__law_fields) (defBody s__law_fields) (defScope s__law_fields) .none kV16 dc16 pm16 an16 cd16 ct16), sl16⟩) (c16 : PySem.W.codeIn K cd16 "_law_fields" = true) (k16 : PySem.W.keepIn K (.ref f16) = true)
    (a17 : PySem.W.nsIn K mainGlobals "_law_test" = some (some (.ref f17))) (l17 : K.lookup f17 = some ⟨oc17, od17, .func (PySem.W.fnOf "_law_test" "_law_test" (defArgs s__law_test) (defBody s__law_test) (defScope s__law_test) .none kV17 dc17 pm17 an17 cd17 ct17), sl17⟩) (c17 : PySem.W.codeIn K cd17 "_law_test" = true) (k17 : PySem.W.keepIn K (.ref f17) = true)
    (a18 : PySem.W.nsIn K mainGlobals "_law_is_number" = some (some (.ref f18))) (l18 : K.lookup f18 = some ⟨oc18, od18, .func (PySem.W.fnOf "_law_is_number" "_law_is_number" (defArgs s__law_is_number) (defBody s__law_is_number) (defScope s__law_is_number) .none kV18 dc18 pm18 an18 cd18 ct18), sl18⟩) (c18 : PySem.W.codeIn K cd18 "_law_is_number" = true) (k18 : PySem.W.keepIn K (.ref f18) = true)
    (a19 : PySem.W.nsIn K mainGlobals "_law_of_value" = some (some (.ref f19))) (l19 : K.lookup f19 = some ⟨oc19, od19, .func (PySem.W.fnOf "_law_of_value" "_law_of_value" (defArgs s__law_of_value) (defBody s__law_of_value) (defScope s__law_of_value) .none kV19 dc19 pm19 an19 cd19 ct19), sl19⟩) (c19 : PySem.W.codeIn K cd19 "_law_of_value" = true) (k19 : PySem.W.keepIn K (.ref f19) = true)
    (a20 : PySem.W.nsIn K mainGlobals "_law_joined" = some (some (.ref f20))) (l20 : K.lookup f20 = some ⟨oc20, od20, .func (PySem.W.fnOf "_law_joined" "_law_joined" (defArgs s__law_joined) (defBody s__law_joined) (defScope s__law_joined) .none kV20 dc20 pm20 an20 cd20 ct20), sl20⟩) (c20 : PySem.W.codeIn K cd20 "_law_joined" = true) (k20 : PySem.W.keepIn K (.ref f20) = true)
    (a21 : PySem.W.nsIn K mainGlobals "law" = some (some (.ref f21))) (l21 : K.lookup f21 = some ⟨oc21, od21, .func (PySem.W.fnOf "law" "law" (defArgs s_law) (defBody s_law) (defScope s_law) .none kV21 dc21 pm21 an21 cd21 ct21), sl21⟩) (c21 : PySem.W.codeIn K cd21 "law" = true) (k21 : PySem.W.keepIn K (.ref f21) = true)
    (z_abs : PySem.W.nsIn K mainGlobals "abs" = some none)
    (z_all : PySem.W.nsIn K mainGlobals "all" = some none)
    (z_bool : PySem.W.nsIn K mainGlobals "bool" = some none)
    (z_dict : PySem.W.nsIn K mainGlobals "dict" = some none)
    (z_enumerate : PySem.W.nsIn K mainGlobals "enumerate" = some none)
    (z_int : PySem.W.nsIn K mainGlobals "int" = some none)
    (z_isinstance : PySem.W.nsIn K mainGlobals "isinstance" = some none)
    (z_len : PySem.W.nsIn K mainGlobals "len" = some none)
    (z_range : PySem.W.nsIn K mainGlobals "range" = some none)
    (z_sorted : PySem.W.nsIn K mainGlobals "sorted" = some none)
    (z_str : PySem.W.nsIn K mainGlobals "str" = some none)
    (z_tuple : PySem.W.nsIn K mainGlobals "tuple" = some none)
    (g_COMPARING : PySem.W.nsIn K mainGlobals "COMPARING" = some (some (.ref ga_COMPARING))) (h_COMPARING : K.lookup ga_COMPARING = some ⟨.type "tuple", gd_COMPARING, .seq #[.str "is" gt_COMPARING_0, .str "under" gt_COMPARING_1, .str "over" gt_COMPARING_2] gn_COMPARING, gs_COMPARING⟩)
    (g_JOINING : PySem.W.nsIn K mainGlobals "JOINING" = some (some (.ref ga_JOINING))) (h_JOINING : K.lookup ga_JOINING = some ⟨.type "tuple", gd_JOINING, .seq #[.str "both" gt_JOINING_0, .str "either" gt_JOINING_1] gn_JOINING, gs_JOINING⟩)
    (g_LETTERS : PySem.W.nsIn K mainGlobals "LETTERS" = some (some (.str "abcdefghijklmnopqrstuvwxyz" gt_LETTERS)))
    (g_MOST_LETTERS : PySem.W.nsIn K mainGlobals "MOST_LETTERS" = some (some (.int 8 gt_MOST_LETTERS))) :
    Tx K mg cX ∧ ∀ fa : Addr, mg "law" = some (.ref fa) → ∃ fd, Fun K "law" "law" s_law fa fd := by
  refine ⟨⟨fx_mk X G a0 l0 c0 k0 fun _ _ _ _ _ _ us hl => match us, hl with | [_], _ => rfl,
    fx_mk X G a1 l1 c1 k1 fun _ _ _ _ _ _ us hl => match us, hl with | [_], _ => rfl,
    fx_mk X G a2 l2 c2 k2 fun _ _ _ _ _ _ us hl => match us, hl with | [_], _ => rfl,
    fx_mk X G a3 l3 c3 k3 fun _ _ _ _ _ _ us hl => match us, hl with | [_], _ => rfl,
    fx_mk X G a4 l4 c4 k4 fun _ _ _ _ _ _ us hl => match us, hl with | [_, _], _ => rfl,
    fx_mk X G a5 l5 c5 k5 fun _ _ _ _ _ _ us hl => match us, hl with | [_, _], _ => rfl,
    fx_mk X G a6 l6 c6 k6 fun _ _ _ _ _ _ us hl => match us, hl with | [_], _ => rfl,
    (by subst q7; exact fxC_mk X G a7 l7 c7 k7 fun _ _ _ _ _ _ us hl => match us, hl with | [_], _ => rfl),
    fx_mk X G a8 l8 c8 k8 fun _ _ _ _ _ _ us hl => match us, hl with | [_], _ => rfl,
    fx_mk X G a9 l9 c9 k9 fun _ _ _ _ _ _ us hl => match us, hl with | [_, _, _], _ => rfl,
    fx_mk X G a10 l10 c10 k10 fun _ _ _ _ _ _ us hl => match us, hl with | [_, _], _ => rfl,
    fx_mk X G a11 l11 c11 k11 fun _ _ _ _ _ _ us hl => match us, hl with | [_, _], _ => rfl,
    fx_mk X G a12 l12 c12 k12 fun _ _ _ _ _ _ us hl => match us, hl with | [_], _ => rfl,
    fx_mk X G a13 l13 c13 k13 fun _ _ _ _ _ _ us hl => match us, hl with | [_, _], _ => rfl,
    fx_mk X G a14 l14 c14 k14 fun _ _ _ _ _ _ us hl => match us, hl with | [_], _ => rfl,
    fx_mk X G a15 l15 c15 k15 fun _ _ _ _ _ _ us hl => match us, hl with | [_], _ => rfl,
    fx_mk X G a16 l16 c16 k16 fun _ _ _ _ _ _ us hl => match us, hl with | [_, _], _ => rfl,
    fx_mk X G a17 l17 c17 k17 fun _ _ _ _ _ _ us hl => match us, hl with | [_, _], _ => rfl,
    fx_mk X G a18 l18 c18 k18 fun _ _ _ _ _ _ us hl => match us, hl with | [_], _ => rfl,
    fx_mk X G a19 l19 c19 k19 fun _ _ _ _ _ _ us hl => match us, hl with | [_, _, _], _ => rfl,
    fx_mk X G a20 l20 c20 k20 fun _ _ _ _ _ _ us hl => match us, hl with | [_, _], _ => rfl,
    PySem.W.mg_none_of X G z_abs,
    PySem.W.mg_none_of X G z_all,
    PySem.W.mg_none_of X G z_bool,
    PySem.W.mg_none_of X G z_dict,
    PySem.W.mg_none_of X G z_enumerate,
    PySem.W.mg_none_of X G z_int,
    PySem.W.mg_none_of X G z_isinstance,
    PySem.W.mg_none_of X G z_len,
    PySem.W.mg_none_of X G z_range,
    PySem.W.mg_none_of X G z_sorted,
    PySem.W.mg_none_of X G z_str,
    PySem.W.mg_none_of X G z_tuple,
    gt_mk X G g_COMPARING h_COMPARING (by show 3 ≤ sizeLine; rw [sizeLine_eq]; decide) (.cons ⟨_, rfl⟩ (.cons ⟨_, rfl⟩ (.cons ⟨_, rfl⟩ .nil))) (by decide),
    gt_mk X G g_JOINING h_JOINING (by show 2 ≤ sizeLine; rw [sizeLine_eq]; decide) (.cons ⟨_, rfl⟩ (.cons ⟨_, rfl⟩ .nil)) (by decide),
    ⟨_, PySem.W.mg_of X G g_LETTERS⟩,
    ⟨_, PySem.W.mg_of X G g_MOST_LETTERS⟩⟩, fun fa hfa => ?_⟩
  have e := hfa.symm.trans (PySem.W.mg_of X G a21)
  cases e
  exact ⟨_, fun_mk (st := s_law) l21 c21 k21⟩
end Lw

open PySem PySem.W PyProof.Rows in
theorem PySem.Challenge.cw_webstore_k06_whole_tests_together_holds : PySem.Challenge.rw_webstore_k06_whole_tests_together.Holds := by
  w_on; o_law; k_head; (case hw => w_witness2)
  k_fill
  refine Pd.law_endT (l := PySem.Challenge.rw_webstore_k06_whole_tests_together) (k := 40) (x := "_law_script") (st := Lw.s_law) 67 63 Lw.qn rfl rfl ⟨rfl, by decide, by decide⟩ rfl (fun _ _ _ _ _ _ _ _ => .of_eq rfl) ?hq1 ?hq2 ?hq3 ?F
  (case hq3 => decide)
  case F =>
    intro w mg h KX G
    suffices q : Lw.Tx _ mg _ ∧ ∀ fa : PySem.Addr, mg "law" = some (.ref fa) → ∃ fd, L2.Fun _ "law" "law" Lw.s_law fa fd from ⟨q.2, fun base _ _ TB fa fd hm hf => Lw.ok_law q.1 TB hf⟩
    refine' Lw.all_mk _ KX G ?a0 ?l0 ?c0 ?k0 ?a1 ?l1 ?c1 ?k1 ?a2 ?l2 ?c2 ?k2 ?a3 ?l3 ?c3 ?k3 ?a4 ?l4 ?c4 ?k4 ?a5 ?l5 ?c5 ?k5 ?a6 ?l6 ?c6 ?k6 ?a7 ?l7 ?c7 ?k7 ?q7 ?a8 ?l8 ?c8 ?k8 ?a9 ?l9 ?c9 ?k9 ?a10 ?l10 ?c10 ?k10 ?a11 ?l11 ?c11 ?k11 ?a12 ?l12 ?c12 ?k12 ?a13 ?l13 ?c13 ?k13 ?a14 ?l14 ?c14 ?k14 ?a15 ?l15 ?c15 ?k15 ?a16 ?l16 ?c16 ?k16 ?a17 ?l17 ?c17 ?k17 ?a18 ?l18 ?c18 ?k18 ?a19 ?l19 ?c19 ?k19 ?a20 ?l20 ?c20 ?k20 ?a21 ?l21 ?c21 ?k21 ?z_abs ?z_all ?z_bool ?z_dict ?z_enumerate ?z_int ?z_isinstance ?z_len ?z_range ?z_sorted ?z_str ?z_tuple ?g_COMPARING ?h_COMPARING ?g_JOINING ?h_JOINING ?g_LETTERS ?g_MOST_LETTERS
    (case a0 => k_is)
    (case l0 => k_is)
    (case c0 => k_is)
    (case k0 => k_is)
    (case a1 => k_is)
    (case l1 => k_is)
    (case c1 => k_is)
    (case k1 => k_is)
    (case a2 => k_is)
    (case l2 => k_is)
    (case c2 => k_is)
    (case k2 => k_is)
    (case a3 => k_is)
    (case l3 => k_is)
    (case c3 => k_is)
    (case k3 => k_is)
    (case a4 => k_is)
    (case l4 => k_is)
    (case c4 => k_is)
    (case k4 => k_is)
    (case a5 => k_is)
    (case l5 => k_is)
    (case c5 => k_is)
    (case k5 => k_is)
    (case a6 => k_is)
    (case l6 => k_is)
    (case c6 => k_is)
    (case k6 => k_is)
    (case a7 => k_is)
    (case l7 => k_is)
    (case c7 => k_is)
    (case k7 => k_is)
    (case q7 => rfl)
    (case a8 => k_is)
    (case l8 => k_is)
    (case c8 => k_is)
    (case k8 => k_is)
    (case a9 => k_is)
    (case l9 => k_is)
    (case c9 => k_is)
    (case k9 => k_is)
    (case a10 => k_is)
    (case l10 => k_is)
    (case c10 => k_is)
    (case k10 => k_is)
    (case a11 => k_is)
    (case l11 => k_is)
    (case c11 => k_is)
    (case k11 => k_is)
    (case a12 => k_is)
    (case l12 => k_is)
    (case c12 => k_is)
    (case k12 => k_is)
    (case a13 => k_is)
    (case l13 => k_is)
    (case c13 => k_is)
    (case k13 => k_is)
    (case a14 => k_is)
    (case l14 => k_is)
    (case c14 => k_is)
    (case k14 => k_is)
    (case a15 => k_is)
    (case l15 => k_is)
    (case c15 => k_is)
    (case k15 => k_is)
    (case a16 => k_is)
    (case l16 => k_is)
    (case c16 => k_is)
    (case k16 => k_is)
    (case a17 => k_is)
    (case l17 => k_is)
    (case c17 => k_is)
    (case k17 => k_is)
    (case a18 => k_is)
    (case l18 => k_is)
    (case c18 => k_is)
    (case k18 => k_is)
    (case a19 => k_is)
    (case l19 => k_is)
    (case c19 => k_is)
    (case k19 => k_is)
    (case a20 => k_is)
    (case l20 => k_is)
    (case c20 => k_is)
    (case k20 => k_is)
    (case a21 => k_is)
    (case l21 => k_is)
    (case c21 => k_is)
    (case k21 => k_is)
    (case z_abs => k_is)
    (case z_all => k_is)
    (case z_bool => k_is)
    (case z_dict => k_is)
    (case z_enumerate => k_is)
    (case z_int => k_is)
    (case z_isinstance => k_is)
    (case z_len => k_is)
    (case z_range => k_is)
    (case z_sorted => k_is)
    (case z_str => k_is)
    (case z_tuple => k_is)
    (case g_COMPARING => k_is)
    (case h_COMPARING => k_is)
    (case g_JOINING => k_is)
    (case h_JOINING => k_is)
    (case g_LETTERS => k_is)
    (case g_MOST_LETTERS => k_is)
  (case hq1 => exact fun _ => by kernel_rfl)
  (case hq2 => exact fun _ => by kernel_rfl)
#print axioms PySem.Challenge.cw_webstore_k06_whole_tests_together_holds
