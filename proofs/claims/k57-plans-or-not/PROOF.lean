import PyProof.Rows.All
import Wide.All
import OpenK.AllK
import Wide.FinOn
import HandS.ForMost
import HandS.Wide
import HandS.IsInst
import HandS.Flow
import HandS.Style
import HandS.TupAny
import HandS.TupLe
import HandS.Conv
import HandS.Strs
import HandS.SetFor
import HandS.Rev
import HandS.TupMul
import HandS.ReplaceLit
import HandS.Zip
import PyProof.Draws
import HandS.SortInts
import PyProof.Rows.SortShellAny
import PyProof.ListStr
import KE.GoesMore
import PyProof.WalksMore
import PySem.Challenge.RW_webstore_k57_plans_or_not
set_option Elab.async false
set_option linter.all false
set_option maxRecDepth 100000
set_option maxHeartbeats 4000000
/-! Data layer over HandS: a value stands for data read deep; what may change stands in a world of its own. -/
namespace Pd
open PySem L2

abbrev Frag := PySem.W.Frag
/-- the written part, and what is hidden: objects that stand still meanwhile and that nothing speaks of -/
structure Fw where
  P : Program
  W : World
  F : Frag
structure Kz where
  K : Fw
  Z : Addr → Prop
/-- data; scr: a list that is locked (the script); ref: a thing by its address alone; ty: a built-in class -/
inductive PV where
  | non | bl (b : Bool) | int (i : Int) | str (x : Str) | tup (xs : List PV) | lst (xs : List PV) | scr (xs : List PV) | ref (a : Addr) | ty (n : String)
mutual
def PV.dep : PV → Nat
  | .lst xs => PV.deps xs + 1
  | .tup xs => PV.deps xs + 1
  | _ => 0
def PV.deps : List PV → Nat
  | [] => 0
  | x :: xs => max (PV.dep x) (PV.deps xs)
end
mutual
/-- what may be a key: no truths, no lists -/
def PV.hk : PV → Bool
  | .non => true
  | .int _ => true
  | .str _ => true
  | .tup xs => PV.hks xs
  | _ => false
def PV.hks : List PV → Bool
  | [] => true
  | x :: xs => PV.hk x && PV.hks xs
end
mutual
/-- its hash -/
def pvHash (W : World) : PV → Int
  | .non => 0xFCA86420
  | .int i => hashInt i
  | .str x => hashStr W x
  | .tup xs => reduceHash (Builtin.Tuple.tupleHashOf (pvHashs W xs))
  | _ => 0
def pvHashs (W : World) : List PV → List Int
  | [] => []
  | x :: xs => pvHash W x :: pvHashs W xs
end
/-- a dict whose keys are tuples of any depth, as an object -/
def PvDict (W : World) (a : Addr) (xs : List (PV × Addr × Value)) : Heap → Prop := fun h => (a == sysModules) = false ∧ xs.length ≤ sizeLine ∧
  ∃ o es ep, h.get? a = some o ∧ o.ExactDict ∧ o.data = .dict es ep ∧ es.toList = xs.map (fun x => (⟨pvHash W x.1, .ref x.2.1, x.2.2⟩ : DictEntry)) ∧ (xs.map (·.1)).Nodup
/-- things that may change; dcp: a dict with tuples of any depth for keys -/
inductive MO where
  | lst (xs : List PV) | dct (kvs : List (Key × PV)) | dcp (kvs : List (PV × PV)) | ins (C : Addr) (fs : List (Str × PV))
abbrev Wd := Addr → Option MO
def wset (w : Wd) (a : Addr) (m : MO) : Wd := fun b => if b = a then some m else w b
theorem wset_same {w : Wd} {a : Addr} {m : MO} : wset w a m a = some m := by unfold wset; rw [if_pos rfl]
theorem wset_ne {w : Wd} {a b : Addr} {m : MO} (h : b ≠ a) : wset w a m b = w b := by unfold wset; rw [if_neg h]
theorem wset_wset {w : Wd} {a : Addr} {m m' : MO} : wset (wset w a m) a m' = wset w a m' := by
  funext b; unfold wset; split <;> rfl
def wdel (w : Wd) (a : Addr) : Wd := fun b => if b = a then none else w b

def WrT (K : Frag) (a : Addr) (xs : List V) : Prop :=
  ∃ (o : Obj) (its : Array Value) (n : Nat), K.lookup a = some o ∧ o.cls = .type "tuple" ∧ o.data = .seq its n ∧ its.size ≤ sizeLine ∧ Vals xs its.toList
def Tp (K : Kz) (w : Wd) (H : Hp) (a : Addr) (xs : List V) : Prop := (w a = none ∧ ¬ K.Z a ∧ H a = some (.tup xs)) ∨ WrT K.K.F a xs
def Lp (K : Kz) (w : Wd) (H : Hp) (a : Addr) (xs : List V) : Prop := w a = none ∧ ¬ K.Z a ∧ H a = some (.lst xs)
def WrL (K : Frag) (a : Addr) (xs : List V) : Prop :=
  ∃ (o : Obj) (its : Array Value) (n : Nat), K.lookup a = some o ∧ o.cls = .type "list" ∧ o.dict = none ∧ o.data = .seq its n ∧ its.size ≤ sizeLine ∧ Vals xs its.toList
def Zp (K : Kz) (w : Wd) (H : Hp) (a : Addr) (xs : List V) : Prop := (w a = none ∧ ¬ K.Z a ∧ Rd H a (.lst xs)) ∨ WrL K.K.F a xs
theorem Tp.sq {K : Kz} {w : Wd} {H : Hp} {a : Addr} {xs : List V} (h : Tp K w H a xs) : SqT K.K.F H a xs := by
  rcases h with ⟨_, _, h⟩ | h
  · exact SqT.of h
  · exact .inr h
theorem Lp.sq {K : Kz} {w : Wd} {H : Hp} {a : Addr} {xs : List V} (h : Lp K w H a xs) : SqL K.K.F H a xs := SqL.of h.2.2
theorem Zp.sq {K : Kz} {w : Wd} {H : Hp} {a : Addr} {xs : List V} (h : Zp K w H a xs) : SqL K.K.F H a xs := by
  rcases h with h | h
  · exact .inl h.2.2
  · exact .inr h

mutual
inductive Dn (K : Kz) (w : Wd) (H : Hp) : V → PV → Prop
  | non : Dn K w H .non .non
  | bl (b : Bool) : Dn K w H (.bl b) (.bl b)
  | int (i : Int) : Dn K w H (.int i) (.int i)
  | str (x : Str) : Dn K w H (.str x) (.str x)
  | ref (a : Addr) : Dn K w H (.ref a) (.ref a)
  | ty (n : String) : Dn K w H (.ty n) (.ty n)
  | tup {a : Addr} {xs : List V} {ds : List PV} : Tp K w H a xs → DnAll K w H xs ds → Dn K w H (.ref a) (.tup ds)
  | lst {a : Addr} {xs : List V} {ds : List PV} : Lp K w H a xs → DnAll K w H xs ds → Dn K w H (.ref a) (.lst ds)
  | scr {a : Addr} {xs : List V} {ds : List PV} : Zp K w H a xs → DnAll K w H xs ds → Dn K w H (.ref a) (.scr ds)
inductive DnAll (K : Kz) (w : Wd) (H : Hp) : List V → List PV → Prop
  | nil : DnAll K w H [] []
  | cons {v : V} {vs : List V} {d : PV} {ds : List PV} : Dn K w H v d → DnAll K w H vs ds → DnAll K w H (v :: vs) (d :: ds)
end

/-- all that doesn't change stands on -/
def Ext (w : Wd) (H : Hp) (w' : Wd) (H' : Hp) : Prop := ∀ b o, w b = none → H b = some o → w' b = none ∧ H' b = some o
theorem Ext.refl (w : Wd) (H : Hp) : Ext w H w H := fun _ _ h1 h2 => ⟨h1, h2⟩
theorem Ext.trans {w w1 w2 : Wd} {H H1 H2 : Hp} (a : Ext w H w1 H1) (b : Ext w1 H1 w2 H2) : Ext w H w2 H2 := fun c o h1 h2 =>
  b c o (a c o h1 h2).1 (a c o h1 h2).2

section
variable {K : Kz} {w w' : Wd} {H H' : Hp}
theorem Tp.ext {a : Addr} {xs : List V} (e : Ext w H w' H') (h : Tp K w H a xs) : Tp K w' H' a xs := by
  rcases h with ⟨h1, hz, h2⟩ | h
  · exact .inl ⟨(e a _ h1 h2).1, hz, (e a _ h1 h2).2⟩
  · exact .inr h
theorem Lp.ext {a : Addr} {xs : List V} (e : Ext w H w' H') (h : Lp K w H a xs) : Lp K w' H' a xs := ⟨(e a _ h.1 h.2.2).1, h.2.1, (e a _ h.1 h.2.2).2⟩
theorem Zp.ext {a : Addr} {xs : List V} (e : Ext w H w' H') (h : Zp K w H a xs) : Zp K w' H' a xs := by
  rcases h with ⟨h1, hz, h2 | ⟨o, h2⟩⟩ | h
  · exact .inl ⟨(e a _ h1 h2).1, hz, .inl (e a _ h1 h2).2⟩
  · exact .inl ⟨(e a _ h1 h2).1, hz, .inr ⟨o, (e a _ h1 h2).2⟩⟩
  · exact .inr h
mutual
theorem Dn.ext (e : Ext w H w' H') : ∀ {v : V} {d : PV}, Dn K w H v d → Dn K w' H' v d
  | _, _, .non => .non
  | _, _, .bl b => .bl b
  | _, _, .int i => .int i
  | _, _, .str x => .str x
  | _, _, .ref a => .ref a
  | _, _, .ty n => .ty n
  | _, _, .tup h r => .tup (h.ext e) (DnAll.ext e r)
  | _, _, .lst h r => .lst (h.ext e) (DnAll.ext e r)
  | _, _, .scr h r => .scr (h.ext e) (DnAll.ext e r)
theorem DnAll.ext (e : Ext w H w' H') : ∀ {vs : List V} {ds : List PV}, DnAll K w H vs ds → DnAll K w' H' vs ds
  | _, _, .nil => .nil
  | _, _, .cons h r => .cons (h.ext e) (DnAll.ext e r)
end
theorem DnAll.length : ∀ {vs : List V} {ds : List PV}, DnAll K w H vs ds → vs.length = ds.length
  | _, _, .nil => rfl
  | _, _, .cons _ r => by rw [List.length_cons, List.length_cons, DnAll.length r]
theorem DnAll.append : ∀ {vs us : List V} {ds es : List PV}, DnAll K w H vs ds → DnAll K w H us es → DnAll K w H (vs ++ us) (ds ++ es)
  | _, _, _, _, .nil, s => s
  | _, _, _, _, .cons h r, s => .cons h (DnAll.append r s)
theorem DnAll.get : ∀ {vs : List V} {ds : List PV} {i : Nat} {d : PV}, DnAll K w H vs ds → ds[i]? = some d → ∃ v, vs[i]? = some v ∧ Dn K w H v d
  | _, _, _, _, .nil, e => by simp at e
  | _, _, 0, _, .cons h _, e => by simp at e; subst e; exact ⟨_, rfl, h⟩
  | _, _, i + 1, d, .cons _ r, e => by
    obtain ⟨v, h1, h2⟩ := DnAll.get (i := i) (d := d) r (by simpa using e)
    exact ⟨v, by simpa using h1, h2⟩
theorem DnAll.get' : ∀ {vs : List V} {ds : List PV} {i : Nat} {v : V}, DnAll K w H vs ds → vs[i]? = some v → ∃ d, ds[i]? = some d ∧ Dn K w H v d
  | _, _, _, _, .nil, e => by simp at e
  | _, _, 0, _, .cons h _, e => by simp at e; subst e; exact ⟨_, rfl, h⟩
  | _, _, i + 1, v, .cons _ r, e => by
    obtain ⟨d, h1, h2⟩ := DnAll.get' (i := i) (v := v) r (by simpa using e)
    exact ⟨d, by simpa using h1, h2⟩
theorem DnAll.drop : ∀ {vs : List V} {ds : List PV} (n : Nat), DnAll K w H vs ds → DnAll K w H (vs.drop n) (ds.drop n)
  | _, _, 0, r => r
  | _, _, _ + 1, .nil => .nil
  | _, _, n + 1, .cons _ r => DnAll.drop n r
theorem DnAll.take : ∀ {vs : List V} {ds : List PV} (n : Nat), DnAll K w H vs ds → DnAll K w H (vs.take n) (ds.take n)
  | _, _, 0, _ => .nil
  | _, _, _ + 1, .nil => .nil
  | _, _, n + 1, .cons h r => .cons h (DnAll.take n r)
theorem DnAll.set {x : V} {d : PV} (h : Dn K w H x d) : ∀ {vs : List V} {ds : List PV} (i : Nat), DnAll K w H vs ds → DnAll K w H (vs.set i x) (ds.set i d)
  | _, _, _, .nil => .nil
  | _, _, 0, .cons _ r => .cons h r
  | _, _, i + 1, .cons q r => .cons q (DnAll.set h i r)
theorem DnAll.rep {vs : List V} {ds : List PV} (h : DnAll K w H vs ds) : ∀ k : Nat, DnAll K w H (List.replicate k vs).flatten (List.replicate k ds).flatten
  | 0 => .nil
  | k + 1 => by
    rw [List.replicate_succ, List.replicate_succ, List.flatten_cons, List.flatten_cons]
    exact h.append (DnAll.rep h k)
end

def KvOk (K : Kz) (w : Wd) (H : Hp) {κ : Type} : List (κ × V) → List (κ × PV) → Prop := Paired fun (p : κ × V) (q : κ × PV) => p.1 = q.1 ∧ Dn K w H p.2 q.2
abbrev KpOk (K : Kz) (w : Wd) (H : Hp) : List (PV × Addr × Value) → List (PV × PV) → Prop := Paired fun q p => q.1 = p.1 ∧ Dn K w H (.ref q.2.1) p.1 ∧ (p.1.hk = true ∧ p.1.dep ≤ 8) ∧ ∃ v, RelV v q.2.2 ∧ Dn K w H v p.2
inductive MOk (K : Kz) (w : Wd) (H : Hp) (a : Addr) : MO → Prop
  | lst {xs : List V} {ds : List PV} : H a = some (.lst xs) → DnAll K w H xs ds → MOk K w H a (.lst ds)
  | dct {xs : List (Key × V)} {ds : List (Key × PV)} : H a = some (.dK xs) → KvOk K w H xs ds → MOk K w H a (.dct ds)
  | dcp {xs : List (PV × Addr × Value)} {ds : List (PV × PV)} : H a = some (.ext (PvDict K.K.W a xs)) → KpOk K w H xs ds → MOk K w H a (.dcp ds)
  | ins {C dx : Addr} {xs : List (Str × V)} {ds : List (Str × PV)} : H a = some (.ins C dx xs) → KvOk K w H xs ds → MOk K w H a (.ins C ds)
structure Wk (K : Kz) (w : Wd) (H : Hp) : Prop where
  at_ : ∀ a m, w a = some m → MOk K w H a m
  zin : ∀ b, K.Z b → w b = none ∧ ∃ o, H b = some o
theorem MOk.there {K : Kz} {w : Wd} {H : Hp} {a : Addr} {m : MO} (h : MOk K w H a m) : ∃ o, H a = some o := by
  cases h with
  | lst h _ => exact ⟨_, h⟩
  | dct h _ => exact ⟨_, h⟩
  | dcp h _ => exact ⟨_, h⟩
  | ins h _ => exact ⟨_, h⟩
theorem Wk.off {K : Kz} {w : Wd} {H : Hp} (k : Wk K w H) {a : Addr} (h : H a = none) : w a = none := by
  cases e : w a with
  | none => rfl
  | some m =>
    obtain ⟨o, q⟩ := (k.at_ a m e).there
    rw [h] at q; cases q
theorem KvOk.ext {K : Kz} {w w' : Wd} {H H' : Hp} {κ : Type} (e : Ext w H w' H') {xs : List (κ × V)} {ds : List (κ × PV)} (h : KvOk K w H xs ds) : KvOk K w' H' xs ds :=
  L2.Paired.mapP h fun _ _ z => ⟨z.1, z.2.ext e⟩
theorem KpOk.ext {K : Kz} {w w' : Wd} {H H' : Hp} (e : Ext w H w' H') {xs : List (PV × Addr × Value)} {ds : List (PV × PV)} (h : KpOk K w H xs ds) : KpOk K w' H' xs ds :=
  L2.Paired.mapP h fun _ _ z => ⟨z.1, z.2.1.ext e, z.2.2.1, by obtain ⟨v, h1, h2⟩ := z.2.2.2; exact ⟨v, h1, h2.ext e⟩⟩
/-- a change of the heap that leaves what may change as it is -/
theorem Wk.ext {K : Kz} {w : Wd} {H H' : Hp} (k : Wk K w H) (e : Ext w H w H') (s : ∀ a, w a ≠ none → H' a = H a) : Wk K w H' := ⟨fun a m h => by
  have ne : w a ≠ Option.none := by rw [h]; exact fun z => nomatch z
  cases k.at_ a m h with
  | lst h1 h2 => exact .lst ((s a ne).trans h1) (h2.ext e)
  | dct h1 h2 => exact .dct ((s a ne).trans h1) (h2.ext e)
  | dcp h1 h2 => exact .dcp ((s a ne).trans h1) (KpOk.ext e h2)
  | ins h1 h2 => exact .ins ((s a ne).trans h1) (h2.ext e), fun b z => by
  obtain ⟨h1, o, h2⟩ := k.zin b z
  exact ⟨h1, o, (e b o h1 h2).2⟩⟩
theorem Wk.nz {K : Kz} {w : Wd} {H : Hp} (k : Wk K w H) {a : Addr} (h : H a = none) : ¬ K.Z a := fun z => by
  obtain ⟨_, o, q⟩ := k.zin a z
  rw [h] at q; cases q

/-- a new object that doesn't change -/
theorem Ext.new {K : Kz} {w : Wd} {H : Hp} (k : Wk K w H) {p : Addr} {o : HO} (n : H p = none) : Ext w H w (upd H p o) := fun b u h1 h2 =>
  ⟨h1, by rw [upd_ne (ne_of_none h2 n)]; exact h2⟩
theorem Wk.new {K : Kz} {w : Wd} {H : Hp} (k : Wk K w H) {p : Addr} {o : HO} (n : H p = none) : Wk K w (upd H p o) :=
  k.ext (Ext.new k n) fun a ha => by
    have q : a ≠ p := fun z => ha (by rw [z]; exact k.off n)
    rw [upd_ne q]

abbrev Sl := List (Option PV)
structure Rep (K : Kz) (ρ : Sl) (w : Wd) (σ : St) (H : Hp) : Prop where
  len : σ.length = ρ.length
  sl : ∀ (i : Nat) d, ρ[i]? = some (some d) → ∃ v, σ[i]? = some (some v) ∧ Dn K w H v d
  wk : Wk K w H
theorem Rep.ext {K : Kz} {ρ : Sl} {w w' : Wd} {σ : St} {H H' : Hp} (r : Rep K ρ w σ H) (e : Ext w H w' H') (k : Wk K w' H') : Rep K ρ w' σ H' :=
  ⟨r.len, fun i d h => by obtain ⟨v, h1, h2⟩ := r.sl i d h; exact ⟨v, h1, h2.ext e⟩, k⟩
theorem Rep.set {K : Kz} {ρ : Sl} {w : Wd} {σ : St} {H : Hp} (r : Rep K ρ w σ H) {v : V} {d : PV} (h : Dn K w H v d) (i : Nat) : Rep K (ρ.set i (some d)) w (σ.set i (some v)) H := by
  refine ⟨by simp [r.len], fun j e q => ?_, r.wk⟩
  by_cases hj : i = j
  · subst hj
    by_cases hl : i < ρ.length
    · rw [List.getElem?_set_self hl] at q
      cases q
      exact ⟨v, List.getElem?_set_self (by rw [r.len]; exact hl), h⟩
    · rw [List.getElem?_eq_none (by simp; omega)] at q
      cases q
  · rw [List.getElem?_set_ne hj] at q
    obtain ⟨u, h1, h2⟩ := r.sl j e q
    exact ⟨u, by rw [List.getElem?_set_ne hj]; exact h1, h2⟩

/-! ### readings over data -/
abbrev WQ := PV → Wd → Prop
abbrev WE := Sl → Wd → WQ → Prop
abbrev WT := Sl → Wd → (Bool → Wd → Prop) → Prop
abbrev WA := Sl → Wd → (List PV → Wd → Prop) → Prop
structure WEnds where
  nx : Sl → Wd → Prop
  rt : WQ
  bk : Sl → Wd → Prop := fun _ _ => False
  ct : Sl → Wd → Prop := fun _ _ => False
abbrev WS := WEnds → Sl → Wd → Prop
def Post (K : Kz) (w : Wd) (H : Hp) (Q : WQ) : VK := fun v H' => ∃ d w', Ext w H w' H' ∧ Wk K w' H' ∧ Dn K w' H' v d ∧ Q d w'
def PostT (K : Kz) (w : Wd) (H : Hp) (Q : Bool → Wd → Prop) : Bool → Hp → Prop := fun b H' => ∃ w', Ext w H w' H' ∧ Wk K w' H' ∧ Q b w'
def PostA (K : Kz) (w : Wd) (H : Hp) (Q : List PV → Wd → Prop) : List V → Hp → Prop := fun vs H' => ∃ ds w', Ext w H w' H' ∧ Wk K w' H' ∧ DnAll K w' H' vs ds ∧ Q ds w'
abbrev fw (X : Cx) : Fw := ⟨X.prog, X.w, X.K⟩
def upE (K : Fw) (t : WE) : TE := fun σ H Q => ∃ Z ρ w Q', Rep ⟨K, Z⟩ ρ w σ H ∧ t ρ w Q' ∧ ∀ v H', Post ⟨K, Z⟩ w H Q' v H' → Q v H'
def upT (K : Fw) (t : WT) : TT := fun σ H Q => ∃ Z ρ w Q', Rep ⟨K, Z⟩ ρ w σ H ∧ t ρ w Q' ∧ ∀ b H', PostT ⟨K, Z⟩ w H Q' b H' → Q b H'
def upA (K : Fw) (t : WA) : TA := fun σ H Q => ∃ Z ρ w Q', Rep ⟨K, Z⟩ ρ w σ H ∧ t ρ w Q' ∧ ∀ vs H', PostA ⟨K, Z⟩ w H Q' vs H' → Q vs H'
structure EndsOk (K : Kz) (w : Wd) (H : Hp) (E : WEnds) (D : Ends) : Prop where
  nx : ∀ σ' H' ρ' w', Ext w H w' H' → Rep K ρ' w' σ' H' → E.nx ρ' w' → D.nx σ' H'
  rt : ∀ v H', Post K w H E.rt v H' → D.rt v H'
  bk : ∀ σ' H' ρ' w', Ext w H w' H' → Rep K ρ' w' σ' H' → E.bk ρ' w' → D.bk σ' H'
  ct : ∀ σ' H' ρ' w', Ext w H w' H' → Rep K ρ' w' σ' H' → E.ct ρ' w' → D.ct σ' H'
theorem EndsOk.ext {K : Kz} {w w' : Wd} {H H' : Hp} {E : WEnds} {D : Ends} (k : EndsOk K w H E D) (e : Ext w H w' H') : EndsOk K w' H' E D :=
  ⟨fun a b c d x r q => k.nx a b c d (e.trans x) r q, fun v h ⟨d, w2, x, r⟩ => k.rt v h ⟨d, w2, e.trans x, r⟩, fun a b c d x r q => k.bk a b c d (e.trans x) r q, fun a b c d x r q => k.ct a b c d (e.trans x) r q⟩
def upS (K : Fw) (t : WS) : TS := fun D σ H => ∃ Z ρ w E, Rep ⟨K, Z⟩ ρ w σ H ∧ t E ρ w ∧ EndsOk ⟨K, Z⟩ w H E D

abbrev DE (X : Cx) (e : Expr) (t : WE) : Prop := PE X e (upE (fw X) t)
abbrev DT (X : Cx) (e : Expr) (t : WT) : Prop := PT X e (upT (fw X) t)
abbrev DW (X : Cx) (e : Expr) (t : WT) : Prop := PW X e (upT (fw X) t)
abbrev DA (X : Cx) (es : List Expr) (t : WA) : Prop := PA X es (upA (fw X) t)
abbrev DS (X : Cx) (st : Stmt) (t : WS) : Prop := PS X st (upS (fw X) t)
abbrev DSs (X : Cx) (st : List Stmt) (t : WS) : Prop := PSs X st (upS (fw X) t)

section
variable {X : Cx} {a b c e : Expr} {es : List Expr} {pos : Pos}
theorem pe_le {t t' : TE} (h : PE X e t) (hl : ∀ σ H Q, t' σ H Q → t σ H Q) : PE X e t' := ⟨fun pins s σ H Q I q => h.run pins s σ H Q I (hl σ H Q q)⟩
theorem pt_le {t t' : TT} (h : PT X e t) (hl : ∀ σ H Q, t' σ H Q → t σ H Q) : PT X e t' := ⟨fun pins s σ H Q I q => h.run pins s σ H Q I (hl σ H Q q)⟩
theorem pw_le {t t' : TT} (h : PW X e t) (hl : ∀ σ H Q, t' σ H Q → t σ H Q) : PW X e t' := ⟨fun w pins s σ H Q I q => h.run w pins s σ H Q I (hl σ H Q q)⟩
theorem pa_le {t t' : TA} (h : PA X es t) (hl : ∀ σ H Q, t' σ H Q → t σ H Q) : PA X es t' := ⟨fun p pins s σ H Q I q => h.run p pins s σ H Q I (hl σ H Q q)⟩
theorem ps_le {st : Stmt} {t t' : TS} (h : PS X st t) (hl : ∀ D σ H, t' D σ H → t D σ H) : PS X st t' := ⟨fun pins s σ H D I q => h.run pins s σ H D I (hl D σ H q)⟩
theorem pss_le {st : List Stmt} {t t' : TS} (h : PSs X st t) (hl : ∀ D σ H, t' D σ H → t D σ H) : PSs X st t' := ⟨fun pins s σ H D I q => h.run pins s σ H D I (hl D σ H q)⟩
/-- one expression, then something -/
theorem up1 {K : Fw} {Z : Addr → Prop} {ta : WE} {σ : St} {H : Hp} {ρ : Sl} {w : Wd} {Q' : WQ} {R : VK} (r : Rep ⟨K, Z⟩ ρ w σ H) (h : ta ρ w Q') (k : ∀ x H1 d w1, Ext w H w1 H1 → Rep ⟨K, Z⟩ ρ w1 σ H1 → Dn ⟨K, Z⟩ w1 H1 x d → Q' d w1 → R x H1) : upE K ta σ H R :=
  ⟨Z, ρ, w, Q', r, h, fun x H1 ⟨d, w1, e, wk, dn, q⟩ => k x H1 d w1 e (r.ext e wk) dn q⟩
theorem upT1 {K : Fw} {Z : Addr → Prop} {ta : WT} {σ : St} {H : Hp} {ρ : Sl} {w : Wd} {Q' : Bool → Wd → Prop} {R : Bool → Hp → Prop} (r : Rep ⟨K, Z⟩ ρ w σ H) (h : ta ρ w Q') (k : ∀ x H1 w1, Ext w H w1 H1 → Rep ⟨K, Z⟩ ρ w1 σ H1 → Q' x w1 → R x H1) : upT K ta σ H R :=
  ⟨Z, ρ, w, Q', r, h, fun x H1 ⟨w1, e, wk, q⟩ => k x H1 w1 e (r.ext e wk) q⟩
theorem upA1 {K : Fw} {Z : Addr → Prop} {ta : WA} {σ : St} {H : Hp} {ρ : Sl} {w : Wd} {Q' : List PV → Wd → Prop} {R : List V → Hp → Prop} (r : Rep ⟨K, Z⟩ ρ w σ H) (h : ta ρ w Q') (k : ∀ x H1 d w1, Ext w H w1 H1 → Rep ⟨K, Z⟩ ρ w1 σ H1 → DnAll ⟨K, Z⟩ w1 H1 x d → Q' d w1 → R x H1) : upA K ta σ H R :=
  ⟨Z, ρ, w, Q', r, h, fun x H1 ⟨d, w1, e, wk, dn, q⟩ => k x H1 d w1 e (r.ext e wk) dn q⟩

/-! names and constants -/
def getS (ρ : Sl) (i : Nat) (k : PV → Prop) : Prop := match ρ[i]? with
  | some (some d) => k d
  | _ => False
theorem getS_at {ρ : Sl} {i : Nat} {k : PV → Prop} (h : getS ρ i k) : ∃ d, ρ[i]? = some (some d) ∧ k d := by
  unfold getS at h
  split at h
  · rename_i d e; exact ⟨d, e, h⟩
  · exact h.elim
def wVar (i : Nat) : WE := fun ρ w Q => getS ρ i fun d => Q d w
def wC (d : PV) : WE := fun _ w Q => Q d w
theorem de_var (i : Nat) {x : Str} {pos : Pos} (hN : X.N[i]? = some x := by rfl) (hv : Vis X.env.scope x := by first | exact Or.inl rfl | exact Or.inr (Or.inl rfl) | exact Or.inr (Or.inr rfl)) (hd : (x == ("__debug__" : Str)) = false := by decide)
    (hcd : (x == ("__classdict__" : Str)) = false := by decide) : DE X (.Name x pos) (wVar i) :=
  pe_le (pe_var hN hv hd hcd) fun σ H Q ⟨Z, ρ, w, Q', r, h, k⟩ => by
    obtain ⟨d, h1, h2⟩ := getS_at h
    obtain ⟨v, h3, h4⟩ := r.sl i d h1
    exact ⟨v, h3, k v H ⟨d, w, Ext.refl _ _, r.wk, h4, h2⟩⟩
theorem de_c {v : V} {d : PV} (h : PE X e (tC v)) (hd : ∀ K w H, Dn K w H v d) : DE X e (wC d) :=
  pe_le h fun σ H Q ⟨Z, ρ, w, Q', r, h, k⟩ => k v H ⟨d, w, Ext.refl _ _, r.wk, hd _ _ _, h⟩
theorem de_int {i j pos} : DE X (.Constant (.int i) j pos) (wC (.int i)) := de_c pe_int fun _ _ _ => .int i
theorem de_bl {b j pos} : DE X (.Constant (.bool b) j pos) (wC (.bl b)) := de_c pe_bl fun _ _ _ => .bl b
theorem de_non {j pos} : DE X (.Constant .none j pos) (wC .non) := de_c pe_non fun _ _ _ => .non
theorem de_str {x j pos} : DE X (.Constant (.str x) j pos) (wC (.str x)) := de_c pe_str fun _ _ _ => .str x
/-- a module's own constant -/
theorem de_gInt {x : Str} {i : Int} {t : Tok} {pos : Pos} (hg : Gl X x) (hm : X.mg x = some (.int i t)) (hd : (x == ("__debug__" : Str)) = false := by decide) : DE X (.Name x pos) (wC (.int i)) := de_c (v := .int i) (pe_glob hg hm ⟨t, rfl⟩ hd) fun _ _ _ => .int i
theorem de_gStr {x : Str} {i : Str} {t : Tok} {pos : Pos} (hg : Gl X x) (hm : X.mg x = some (.str i t)) (hd : (x == ("__debug__" : Str)) = false := by decide) : DE X (.Name x pos) (wC (.str i)) := de_c (v := .str i) (pe_glob hg hm ⟨t, rfl⟩ hd) fun _ _ _ => .str i
/-- a written tuple of the module -/
theorem de_gTup {x : Str} {a : Addr} {xs : List V} {ds : List PV} {pos : Pos} (hg : Gl X x) (hm : X.mg x = some (.ref a)) (hw : WrT X.K a xs) (ha : ∀ Z w H, DnAll ⟨fw X, Z⟩ w H xs ds) (hd : (x == ("__debug__" : Str)) = false := by decide) : DE X (.Name x pos) (wC (.tup ds)) :=
  pe_le (pe_glob (v := .ref a) hg hm rfl hd) fun σ H Q ⟨Z, ρ, w, Q', r, h, k⟩ => k (.ref a) H ⟨.tup ds, w, Ext.refl _ _, r.wk, .tup (.inr hw) (ha _ _ _), h⟩
/-- a built-in class as a value -/
theorem de_ty {x : Str} {n : String} {pos : Pos} (hg : Gl X x) (hm : X.mg x = none) (hv : bootBuiltins x = some (.type n)) (hn : x ≠ "__name__" := by decide) (hd : (x == ("__debug__" : Str)) = false := by decide) : DE X (.Name x pos) (wC (.ty n)) :=
  de_c (v := .ty n) (pe_bltn hg hm hv rfl hn hd) fun _ _ _ => .ty n

/-! operators by values -/
abbrev R2D := PV → PV → Wd → WQ → Prop
/-- what a rule of values says, said of data -/
def L2op (K : Fw) (r : R2) (rD : R2D) : Prop := ∀ (Z : Addr → Prop) x y H dx dy w Q' (Q : VK), Wk ⟨K, Z⟩ w H → Dn ⟨K, Z⟩ w H x dx → Dn ⟨K, Z⟩ w H y dy → rD dx dy w Q' → (∀ v H', Post ⟨K, Z⟩ w H Q' v H' → Q v H') → r x y H Q
def wOp (r : R2D) (ta tb : WE) : WE := fun ρ w Q => ta ρ w fun x w1 => tb ρ w1 fun y w2 => r x y w2 Q
theorem post_trans {K : Kz} {w w1 : Wd} {H H1 : Hp} {Q : WQ} {v : V} {H' : Hp} (e : Ext w H w1 H1) (p : Post K w1 H1 Q v H') : Post K w H Q v H' := by
  obtain ⟨d, w', x, r⟩ := p
  exact ⟨d, w', e.trans x, r⟩
theorem postT_trans {K : Kz} {w w1 : Wd} {H H1 : Hp} {Q : Bool → Wd → Prop} {v : Bool} {H' : Hp} (e : Ext w H w1 H1) (p : PostT K w1 H1 Q v H') : PostT K w H Q v H' := by
  obtain ⟨w', x, r⟩ := p
  exact ⟨w', e.trans x, r⟩
theorem up_op {K : Fw} {r : R2} {rD : R2D} (hl : L2op K r rD) {ta tb : WE} {σ : St} {H : Hp} {Q : VK} (h : upE K (wOp rD ta tb) σ H Q) : tOp r (upE K ta) (upE K tb) σ H Q := by
  obtain ⟨Z, ρ, w, Q', rp, h, k⟩ := h
  refine up1 rp h fun x H1 dx w1 e1 rp1 n1 h1 => ?_
  refine up1 rp1 h1 fun y H2 dy w2 e2 rp2 n2 h2 => ?_
  exact hl Z x y H2 dx dy w2 Q' Q rp2.wk (n1.ext e2) n2 h2 fun v H' p => k v H' (post_trans (e1.trans e2) p)
theorem de_op {op : Operator} {r : R2} {rD : R2D} {ta tb : WE} (ho : OpR X (binaryOp op) r) (hl : L2op (fw X) r rD) (ha : DE X a ta) (hb : DE X b tb) : DE X (.BinOp a op b pos) (wOp rD ta tb) :=
  pe_le (pe_op ho ha hb) fun _ _ _ h => up_op hl h
theorem de_cmp {op : CmpOp} {r : R2} {rD : R2D} {ta tb : WE} (ho : OpR X (compareOp op) r) (hl : L2op (fw X) r rD) (ha : DE X a ta) (hb : DE X b tb) (hk : behindInMarks op b = false) : DE X (.Compare a [op] [b] pos) (wOp rD ta tb) :=
  pe_le (pe_cmpR ho ha hb hk) fun _ _ _ h => up_op hl h
/-- the same value again -/
theorem post_same {K : Kz} {w : Wd} {H : Hp} {Q : WQ} {v : V} {d : PV} (k : Wk K w H) (n : Dn K w H v d) (q : Q d w) : Post K w H Q v H := ⟨d, w, Ext.refl _ _, k, n, q⟩
/-- a new list, a new tuple -/
theorem post_lst {K : Kz} {w : Wd} {H : Hp} {Q : WQ} {xs : List V} {ds : List PV} {p : Addr} (k : Wk K w H) (hp : H p = none) (n : DnAll K w H xs ds) (q : Q (.lst ds) w) : Post K w H Q (.ref p) (upd H p (.lst xs)) :=
  ⟨.lst ds, w, Ext.new k hp, k.new hp, .lst ⟨k.off hp, k.nz hp, upd_same⟩ (n.ext (Ext.new k hp)), q⟩
theorem post_tup {K : Kz} {w : Wd} {H : Hp} {Q : WQ} {xs : List V} {ds : List PV} {p : Addr} (k : Wk K w H) (hp : H p = none) (n : DnAll K w H xs ds) (q : Q (.tup ds) w) : Post K w H Q (.ref p) (upd H p (.tup xs)) :=
  ⟨.tup ds, w, Ext.new k hp, k.new hp, .tup (.inl ⟨k.off hp, k.nz hp, upd_same⟩) (n.ext (Ext.new k hp)), q⟩
end
end Pd

/-! == of data at any depth -/
namespace Pd
open PySem L2

mutual
def PV.eqb : PV → PV → Bool
  | .non, .non => true
  | .bl a, .bl b => a == b
  | .bl a, .int j => (if a then 1 else 0) == j
  | .int i, .bl b => i == (if b then 1 else 0)
  | .int i, .int j => i == j
  | .str x, .str y => x == y
  | .lst xs, .lst ys => PV.eqbs xs ys
  | .tup xs, .tup ys => PV.eqbs xs ys
  | _, _ => false
def PV.eqbs : List PV → List PV → Bool
  | [], [] => true
  | x :: xs, y :: ys => PV.eqb x y && PV.eqbs xs ys
  | _, _ => false
end
mutual
/-- data alone: no thing by its address -/
def PV.pl : PV → Bool
  | .non => true
  | .bl _ => true
  | .int _ => true
  | .str _ => true
  | .lst xs => PV.pls xs
  | .tup xs => PV.pls xs
  | _ => false
def PV.pls : List PV → Bool
  | [] => true
  | x :: xs => PV.pl x && PV.pls xs
end
mutual
theorem PV.eqb_refl : ∀ d : PV, d.pl = true → PV.eqb d d = true
  | .non, _ => by simp [PV.eqb]
  | .bl _, _ => by simp [PV.eqb]
  | .int _, _ => by simp [PV.eqb]
  | .str _, _ => by simp [PV.eqb]
  | .lst xs, h => by rw [PV.eqb]; exact PV.eqbs_refl xs (by simpa [PV.pl] using h)
  | .tup xs, h => by rw [PV.eqb]; exact PV.eqbs_refl xs (by simpa [PV.pl] using h)
  | .scr _, h => by simp [PV.pl] at h
  | .ref _, h => by simp [PV.pl] at h
  | .ty _, h => by simp [PV.pl] at h
theorem PV.eqbs_refl : ∀ ds : List PV, PV.pls ds = true → PV.eqbs ds ds = true
  | [], _ => by simp [PV.eqbs]
  | x :: xs, h => by
    have h' : x.pl = true ∧ PV.pls xs = true := by simpa [PV.pls] using h
    rw [PV.eqbs, PV.eqb_refl x h'.1, PV.eqbs_refl xs h'.2]; rfl
end
abbrev prEq (xs ys : List PV) (j : Nat) : Bool := PV.eqb (xs.getD j .non) (ys.getD j .non)
theorem eqbs_range : ∀ xs ys : List PV, ((List.range (min xs.length ys.length)).all (prEq xs ys) && xs.length == ys.length) = PV.eqbs xs ys
  | [], [] => by simp [PV.eqbs]
  | [], _ :: _ => by simp [PV.eqbs]
  | _ :: _, [] => by simp [PV.eqbs]
  | x :: xs, y :: ys => by
    have ih := eqbs_range xs ys
    have e1 : min (x :: xs).length (y :: ys).length = min xs.length ys.length + 1 := by simp only [List.length_cons]; omega
    have e2 : ((x :: xs).length == (y :: ys).length) = (xs.length == ys.length) := by simp
    have e3 : (List.range (min xs.length ys.length + 1)).all (prEq (x :: xs) (y :: ys)) = (PV.eqb x y && (List.range (min xs.length ys.length)).all (prEq xs ys)) := by
      rw [List.range_succ_eq_map, List.all_cons, List.all_map]
      rfl
    rw [e1, e2, e3, PV.eqbs, ← ih, Bool.and_assoc]
theorem eqbs_same {xs ys : List PV} (h : xs.length = ys.length) : (List.range xs.length).all (prEq xs ys) = PV.eqbs xs ys := by
  have q := eqbs_range xs ys
  rw [← h, Nat.min_self, beq_self_eq_true, Bool.and_true] at q
  exact q
theorem eqbs_other {xs ys : List PV} (h : xs.length ≠ ys.length) : PV.eqbs xs ys = false := by
  rw [← eqbs_range xs ys, beq_false_of_ne h, Bool.and_false]

mutual
/-- a value of the machine that reads as data -/
inductive Rv (h : Heap) : Value → PV → Prop
  | non : Rv h .none .non
  | bl (b : Bool) : Rv h (.bool b) (.bl b)
  | int (i : Int) (t : Tok) : Rv h (.int i t) (.int i)
  | str (x : Str) (t : Tok) : Rv h (.str x t) (.str x)
  | tup {a : Addr} {us : List Value} {ds : List PV} : h.IsTuple a us.toArray → RvAll h us ds → Rv h (.ref a) (.tup ds)
  | lst {a : Addr} {us : List Value} {ds : List PV} : h.IsList a us.toArray → RvAll h us ds → Rv h (.ref a) (.lst ds)
inductive RvAll (h : Heap) : List Value → List PV → Prop
  | nil : RvAll h [] []
  | cons {u : Value} {us : List Value} {d : PV} {ds : List PV} : Rv h u d → RvAll h us ds → RvAll h (u :: us) (d :: ds)
end
theorem RvAll.length {h : Heap} : ∀ {us : List Value} {ds : List PV}, RvAll h us ds → us.length = ds.length
  | _, _, .nil => rfl
  | _, _, .cons _ r => by rw [List.length_cons, List.length_cons, RvAll.length r]
section
variable {X : Cx} {pins : List (Addr × Obj)} {σ : St} {H : Hp} {s : Shared} {w : Wd} {Z : Addr → Prop}
mutual
theorem Dn.rv (I : Inv X pins σ H s) : ∀ {v : V} {d : PV} {u : Value}, Dn ⟨fw X, Z⟩ w H v d → RelV v u → d.pl = true → Rv s.heap u d
  | _, _, _, .non, r, _ => by cases r; exact .non
  | _, _, _, .bl b, r, _ => by cases r; exact .bl b
  | _, _, _, .int i, r, _ => by obtain ⟨t, rfl⟩ := r; exact .int i t
  | _, _, _, .str x, r, _ => by obtain ⟨t, rfl⟩ := r; exact .str x t
  | _, _, _, .ref a, _, h => by simp [PV.pl] at h
  | _, _, _, .ty a, _, h => by simp [PV.pl] at h
  | _, _, _, .scr _ _, _, h => by simp [PV.pl] at h
  | _, _, _, .tup h ds, r, hp => by
    cases r
    obtain ⟨its, rv, ht, _⟩ := I.tuple h.sq
    exact .tup ht (DnAll.rv I ds rv (by simpa [PV.pl] using hp))
  | _, _, _, .lst h ds, r, hp => by
    cases r
    obtain ⟨its, rv, ht, _⟩ := I.list h.sq
    exact .lst ht.isList (DnAll.rv I ds rv (by simpa [PV.pl] using hp))
theorem DnAll.rv (I : Inv X pins σ H s) : ∀ {vs : List V} {ds : List PV} {us : List Value}, DnAll ⟨fw X, Z⟩ w H vs ds → Vals vs us → PV.pls ds = true → RvAll s.heap us ds
  | _, _, _, .nil, r, _ => by cases r; exact .nil
  | _, _, _, .cons h hr, r, hp => by
    cases r with
    | cons r rr =>
      simp only [PV.pls, Bool.and_eq_true] at hp
      exact .cons (Dn.rv I h r hp.1) (DnAll.rv I hr rr hp.2)
end
end
section
variable {h : Heap}
theorem tup_inj {a : Addr} {us vs : Array Value} (x : h.IsTuple a us) (y : h.IsTuple a vs) : us = vs := by
  obtain ⟨o, e, c, n, d⟩ := x
  obtain ⟨o', e', c', n', d'⟩ := y
  rw [e] at e'; cases e'
  rw [d] at d'
  injection d'
theorem lst_inj {a : Addr} {us vs : Array Value} (x : h.IsList a us) (y : h.IsList a vs) : us = vs := by
  obtain ⟨o, e, c, n, d⟩ := x
  obtain ⟨o', e', c', n', d'⟩ := y
  rw [e] at e'; cases e'
  rw [d] at d'
  injection d'
mutual
theorem Rv.uniq : ∀ {u : Value} {d e : PV}, Rv h u d → Rv h u e → d = e
  | _, _, _, .non, y => by cases y; rfl
  | _, _, _, .bl _, y => by cases y; rfl
  | _, _, _, .int _ _, y => by cases y; rfl
  | _, _, _, .str _ _, y => by cases y; rfl
  | _, _, _, .tup x xs, y => by
    cases y with
    | tup z zs =>
      have q : _ = _ := congrArg Array.toList (tup_inj x z)
      simp only at q
      subst q
      rw [RvAll.uniq xs zs]
    | lst z zs =>
      obtain ⟨o, e, c, _⟩ := x
      obtain ⟨o', e', c', _⟩ := z
      rw [e] at e'; cases e'; rw [c] at c'; exact absurd c' (by simp)
  | _, _, _, .lst x xs, y => by
    cases y with
    | lst z zs =>
      have q : _ = _ := congrArg Array.toList (lst_inj x z)
      simp only at q
      subst q
      rw [RvAll.uniq xs zs]
    | tup z zs =>
      obtain ⟨o, e, c, _⟩ := x
      obtain ⟨o', e', c', _⟩ := z
      rw [e] at e'; cases e'; rw [c] at c'; exact absurd c' (by simp)
theorem RvAll.uniq : ∀ {us : List Value} {ds es : List PV}, RvAll h us ds → RvAll h us es → ds = es
  | _, _, _, .nil, y => by cases y; rfl
  | _, _, _, .cons x xs, y => by
    cases y with
    | cons z zs => rw [Rv.uniq x z, RvAll.uniq xs zs]
end
end
open SeqAt in
mutual
theorem eqAt_rv : ∀ (d e : PV) (A : Around) (s : Shared) (u v : Value), Rv s.heap u d → Rv s.heap v e → d.pl = true → e.pl = true → A.units + min d.dep e.dep < cLine → EqAt A s u v (PV.eqb d e)
  | .non, e, A, s, _, _, ru, rv, _, _, hu => by
    cases ru
    cases rv with
    | non => simp only [PV.eqb]; exact EqAt.same _
    | bl c => simp only [PV.eqb]; exact EqAt.none_bool  _
    | int j t2 => simp only [PV.eqb]; exact EqAt.none_int  _ _
    | str y t2 => simp only [PV.eqb]; exact EqAt.none_str  _ _
    | tup z _ => simp only [PV.eqb]; exact EqAt.none_tuple  z (room_here hu)
    | lst z _ => simp only [PV.eqb]; exact EqAt.none_list  z (room_here hu)
  | .bl b, e, A, s, _, _, ru, rv, _, _, hu => by
    cases ru
    cases rv with
    | non => simp only [PV.eqb]; exact EqAt.bool_none _
    | bl c => simp only [PV.eqb]; exact EqAt.bool_bool _ _
    | int j t2 => simp only [PV.eqb]; exact EqAt.bool_int _ _ _
    | str y t2 => simp only [PV.eqb]; exact EqAt.bool_str _ _ _
    | tup z _ => simp only [PV.eqb]; exact EqAt.bool_tuple _ z (room_here hu)
    | lst z _ => simp only [PV.eqb]; exact EqAt.bool_list _ z (room_here hu)
  | .int i, e, A, s, _, _, ru, rv, _, _, hu => by
    cases ru
    cases rv with
    | non => simp only [PV.eqb]; exact EqAt.int_none _ _
    | bl c => simp only [PV.eqb]; exact EqAt.int_bool _ _ _
    | int j t2 => simp only [PV.eqb]; exact EqAt.int_int _ _ _ _
    | str y t2 => simp only [PV.eqb]; exact EqAt.int_str _ _ _ _
    | tup z _ => simp only [PV.eqb]; exact EqAt.int_tuple _ _ z (room_here hu)
    | lst z _ => simp only [PV.eqb]; exact EqAt.int_list _ _ z (room_here hu)
  | .str x, e, A, s, _, _, ru, rv, _, _, hu => by
    cases ru
    cases rv with
    | non => simp only [PV.eqb]; exact EqAt.str_none _ _
    | bl c => simp only [PV.eqb]; exact EqAt.str_bool _ _ _
    | int j t2 => simp only [PV.eqb]; exact EqAt.str_int _ _ _ _
    | str y t2 => simp only [PV.eqb]; exact EqAt.str_str _ _ _ _
    | tup z _ => simp only [PV.eqb]; exact EqAt.str_tuple _ _ z (room_here hu)
    | lst z _ => simp only [PV.eqb]; exact EqAt.str_list _ _ z (room_here hu)
  | .lst xs, e, A, s, _, _, ru, rv, hp, hq, hu => by
    cases ru with
    | @lst a us _ hl hr =>
      cases rv with
      | non => simp only [PV.eqb]; exact EqAt.list_none hl (room_here hu)
      | bl b => simp only [PV.eqb]; exact EqAt.list_bool _ hl (room_here hu)
      | int i t => simp only [PV.eqb]; exact EqAt.list_int _ _ hl (room_here hu)
      | str x t => simp only [PV.eqb]; exact EqAt.list_str _ _ hl (room_here hu)
      | tup hl' _ => simp only [PV.eqb]; exact EqAt.list_tuple hl hl' (room_here hu)
      | @lst a' us' ys hl' hr' =>
        have n1 := hr.length
        have n2 := hr'.length
        simp only [PV.eqb]
        by_cases ha : a = a'
        · subst ha
          have q : PV.lst xs = PV.lst ys := Rv.uniq (.lst hl hr) (.lst hl' hr')
          injection q with q
          subst q
          rw [PV.eqbs_refl xs (by simpa [PV.pl] using hp)]
          exact EqAt.same _
        · by_cases hz : us.length = us'.length
          · rw [← eqbs_same (by omega : xs.length = ys.length), ← n1]
            refine EqAt.of_refs ha ?_
            have z := RcAt.lists (e := prEq xs ys) hl hl' (by simpa using hz) (room_here hu) fun j j1 j2 => ?_
            · simpa using z
            · have z := eqAt_rvs xs ys A.in1 s us us' hr hr' (by simpa [PV.pl] using hp) (by simpa [PV.pl] using hq) (room_in (by simpa [PV.dep] using hu)) j (by simpa using j1) (by simpa using j2)
              simpa using z
          · rw [eqbs_other (by omega : xs.length ≠ ys.length)]
            exact EqAt.of_refs ha (RcAt.lists_lengths hl hl' (by simpa using hz) (room_here hu))
  | .tup xs, e, A, s, _, _, ru, rv, hp, hq, hu => by
    cases ru with
    | @tup a us _ hl hr =>
      cases rv with
      | non => simp only [PV.eqb]; exact EqAt.tuple_none hl (room_here hu)
      | bl b => simp only [PV.eqb]; exact EqAt.tuple_bool _ hl (room_here hu)
      | int i t => simp only [PV.eqb]; exact EqAt.tuple_int _ _ hl (room_here hu)
      | str x t => simp only [PV.eqb]; exact EqAt.tuple_str _ _ hl (room_here hu)
      | lst hl' _ => simp only [PV.eqb]; exact EqAt.tuple_list hl hl' (room_here hu)
      | @tup a' us' ys hl' hr' =>
        have n1 := hr.length
        have n2 := hr'.length
        simp only [PV.eqb]
        by_cases ha : a = a'
        · subst ha
          have q : PV.tup xs = PV.tup ys := Rv.uniq (.tup hl hr) (.tup hl' hr')
          injection q with q
          subst q
          rw [PV.eqbs_refl xs (by simpa [PV.pl] using hp)]
          exact EqAt.same _
        · rw [← eqbs_range xs ys, ← n1, ← n2]
          refine EqAt.of_refs ha ?_
          have z := RcAt.tuples (e := prEq xs ys) hl hl' (room_here hu) fun j j1 j2 => ?_
          · simpa using z
          · have z := eqAt_rvs xs ys A.in1 s us us' hr hr' (by simpa [PV.pl] using hp) (by simpa [PV.pl] using hq) (room_in (by simpa [PV.dep] using hu)) j (by simpa using j1) (by simpa using j2)
            simpa using z
  | .scr _, _, _, _, _, _, _, _, hp, _, _ => by simp [PV.pl] at hp
  | .ref _, _, _, _, _, _, _, _, hp, _, _ => by simp [PV.pl] at hp
  | .ty _, _, _, _, _, _, _, _, hp, _, _ => by simp [PV.pl] at hp
theorem eqAt_rvs : ∀ (ds es : List PV) (A : Around) (s : Shared) (us vs : List Value), RvAll s.heap us ds → RvAll s.heap vs es → PV.pls ds = true → PV.pls es = true → A.units + min (PV.deps ds) (PV.deps es) < cLine →
    ∀ j (h1 : j < us.length) (h2 : j < vs.length), EqAt A s us[j] vs[j] (prEq ds es j)
  | [], _, _, _, _, _, ru, _, _, _, _, j, h1, _ => by cases ru; exact absurd h1 (Nat.not_lt_zero _)
  | _ :: _, [], _, _, _, _, _, rv, _, _, _, j, _, h2 => by cases rv; exact absurd h2 (Nat.not_lt_zero _)
  | d :: ds, e :: es, A, s, _, _, ru, rv, hp, hq, hu, j, h1, h2 => by
    have hp' : d.pl = true ∧ PV.pls ds = true := by simpa [PV.pls] using hp
    have hq' : e.pl = true ∧ PV.pls es = true := by simpa [PV.pls] using hq
    cases ru with
    | cons r rs =>
      cases rv with
      | cons r' rs' =>
        cases j with
        | zero => exact eqAt_rv d e A s _ _ r r' hp'.1 hq'.1 (room_head (by simpa [PV.deps] using hu))
        | succ j => exact eqAt_rvs ds es A s _ _ rs rs' hp'.2 hq'.2 (room_tail (by simpa [PV.deps] using hu)) j (Nat.lt_of_succ_lt_succ h1) (Nat.lt_of_succ_lt_succ h2)
end
open SeqAt in
theorem rcAt_rv {d e : PV} {A : Around} {s : Shared} {u v : Value} (ru : Rv s.heap u d) (rv : Rv s.heap v e) (hp : d.pl = true) (hq : e.pl = true) (hu : A.units + min d.dep e.dep < cLine) :
    RcAt A s u v (PV.eqb d e) ∧ RcNeAt A s u v (!PV.eqb d e) := by
  have hh := room_here hu
  cases ru with
  | non =>
    cases rv with
    | non => simp only [PV.eqb]; exact ⟨RcAt.none_none, RcNeAt.none_none⟩
    | bl c => simp only [PV.eqb]; exact ⟨RcAt.none_bool  _, RcNeAt.none_bool  _⟩
    | int j t2 => simp only [PV.eqb]; exact ⟨RcAt.none_int  _ _, RcNeAt.none_int  _ _⟩
    | str y t2 => simp only [PV.eqb]; exact ⟨RcAt.none_str  _ _, RcNeAt.none_str  _ _⟩
    | tup z _ => simp only [PV.eqb]; exact ⟨RcAt.none_tuple  z hh, RcNeAt.none_tuple  z hh⟩
    | lst z _ => simp only [PV.eqb]; exact ⟨RcAt.none_list  z hh, RcNeAt.none_list  z hh⟩
  | bl b =>
    cases rv with
    | non => simp only [PV.eqb]; exact ⟨RcAt.bool_none _, RcNeAt.bool_none _⟩
    | bl c => simp only [PV.eqb]; exact ⟨RcAt.bool_bool _ _, RcNeAt.bool_bool _ _⟩
    | int j t2 => simp only [PV.eqb]; exact ⟨RcAt.bool_int _ _ _, RcNeAt.bool_int _ _ _⟩
    | str y t2 => simp only [PV.eqb]; exact ⟨RcAt.bool_str _ _ _, RcNeAt.bool_str _ _ _⟩
    | tup z _ => simp only [PV.eqb]; exact ⟨RcAt.bool_tuple _ z hh, RcNeAt.bool_tuple _ z hh⟩
    | lst z _ => simp only [PV.eqb]; exact ⟨RcAt.bool_list _ z hh, RcNeAt.bool_list _ z hh⟩
  | int i t =>
    cases rv with
    | non => simp only [PV.eqb]; exact ⟨RcAt.int_none _ _, RcNeAt.int_none _ _⟩
    | bl c => simp only [PV.eqb]; exact ⟨RcAt.int_bool _ _ _, RcNeAt.int_bool _ _ _⟩
    | int j t2 => simp only [PV.eqb]; exact ⟨RcAt.int_int _ _ _ _, RcNeAt.int_int _ _ _ _⟩
    | str y t2 => simp only [PV.eqb]; exact ⟨RcAt.int_str _ _ _ _, RcNeAt.int_str _ _ _ _⟩
    | tup z _ => simp only [PV.eqb]; exact ⟨RcAt.int_tuple _ _ z hh, RcNeAt.int_tuple _ _ z hh⟩
    | lst z _ => simp only [PV.eqb]; exact ⟨RcAt.int_list _ _ z hh, RcNeAt.int_list _ _ z hh⟩
  | str x t =>
    cases rv with
    | non => simp only [PV.eqb]; exact ⟨RcAt.str_none _ _, RcNeAt.str_none _ _⟩
    | bl c => simp only [PV.eqb]; exact ⟨RcAt.str_bool _ _ _, RcNeAt.str_bool _ _ _⟩
    | int j t2 => simp only [PV.eqb]; exact ⟨RcAt.str_int _ _ _ _, RcNeAt.str_int _ _ _ _⟩
    | str y t2 => simp only [PV.eqb]; exact ⟨RcAt.str_str _ _ _ _, RcNeAt.str_str _ _ _ _⟩
    | tup z _ => simp only [PV.eqb]; exact ⟨RcAt.str_tuple _ _ z hh, RcNeAt.str_tuple _ _ z hh⟩
    | lst z _ => simp only [PV.eqb]; exact ⟨RcAt.str_list _ _ z hh, RcNeAt.str_list _ _ z hh⟩
  | @lst a us xs hl hr =>
    cases rv with
    | non => simp only [PV.eqb]; exact ⟨RcAt.list_none hl hh, RcNeAt.list_none hl hh⟩
    | bl b => simp only [PV.eqb]; exact ⟨RcAt.list_bool _ hl hh, RcNeAt.list_bool _ hl hh⟩
    | int i t => simp only [PV.eqb]; exact ⟨RcAt.list_int _ _ hl hh, RcNeAt.list_int _ _ hl hh⟩
    | str x t => simp only [PV.eqb]; exact ⟨RcAt.list_str _ _ hl hh, RcNeAt.list_str _ _ hl hh⟩
    | tup hl' _ => simp only [PV.eqb]; exact ⟨RcAt.list_tuple hl hl' hh, RcNeAt.list_tuple hl hl' hh⟩
    | @lst a' us' ys hl' hr' =>
      have n1 := hr.length
      have n2 := hr'.length
      have he : ∀ j (j1 : j < us.toArray.size) (j2 : j < us'.toArray.size), EqAt A.in1 s us.toArray[j] us'.toArray[j] (prEq xs ys j) := fun j j1 j2 => by
        have z := eqAt_rvs xs ys A.in1 s us us' hr hr' (by simpa [PV.pl] using hp) (by simpa [PV.pl] using hq) (room_in (by simpa [PV.dep] using hu)) j (by simpa using j1) (by simpa using j2)
        simpa using z
      simp only [PV.eqb]
      by_cases hz : us.length = us'.length
      · rw [← eqbs_same (by omega : xs.length = ys.length), ← n1]
        have z1 := RcAt.lists (e := prEq xs ys) hl hl' (by simpa using hz) hh he
        have z2 := RcNeAt.lists (e := prEq xs ys) hl hl' (by simpa using hz) hh he
        exact ⟨by simpa using z1, by simpa using z2⟩
      · rw [eqbs_other (by omega : xs.length ≠ ys.length)]
        exact ⟨RcAt.lists_lengths hl hl' (by simpa using hz) hh, RcNeAt.lists_lengths hl hl' (by simpa using hz) hh⟩
  | @tup a us xs hl hr =>
    cases rv with
    | non => simp only [PV.eqb]; exact ⟨RcAt.tuple_none hl hh, RcNeAt.tuple_none hl hh⟩
    | bl b => simp only [PV.eqb]; exact ⟨RcAt.tuple_bool _ hl hh, RcNeAt.tuple_bool _ hl hh⟩
    | int i t => simp only [PV.eqb]; exact ⟨RcAt.tuple_int _ _ hl hh, RcNeAt.tuple_int _ _ hl hh⟩
    | str x t => simp only [PV.eqb]; exact ⟨RcAt.tuple_str _ _ hl hh, RcNeAt.tuple_str _ _ hl hh⟩
    | lst hl' _ => simp only [PV.eqb]; exact ⟨RcAt.tuple_list hl hl' hh, RcNeAt.tuple_list hl hl' hh⟩
    | @tup a' us' ys hl' hr' =>
      have n1 := hr.length
      have n2 := hr'.length
      have he : ∀ j (j1 : j < us.toArray.size) (j2 : j < us'.toArray.size), EqAt A.in1 s us.toArray[j] us'.toArray[j] (prEq xs ys j) := fun j j1 j2 => by
        have z := eqAt_rvs xs ys A.in1 s us us' hr hr' (by simpa [PV.pl] using hp) (by simpa [PV.pl] using hq) (room_in (by simpa [PV.dep] using hu)) j (by simpa using j1) (by simpa using j2)
        simpa using z
      simp only [PV.eqb]
      rw [← eqbs_range xs ys, ← n1, ← n2]
      have z1 := RcAt.tuples (e := prEq xs ys) hl hl' hh he
      have z2 := RcNeAt.tuples (e := prEq xs ys) hl hl' hh he
      exact ⟨by simpa using z1, by simpa using z2⟩
section
variable {X : Cx}
/-- == and != as rules of data -/
def rEqP (K : Fw) (neg : Bool) : R2 := fun x y H Q => ∃ Z w d e, Dn ⟨K, Z⟩ w H x d ∧ Dn ⟨K, Z⟩ w H y e ∧ d.pl = true ∧ e.pl = true ∧ d.dep ≤ 64 ∧ Q (.bl (if neg then !PV.eqb d e else PV.eqb d e)) H
theorem op_eqP (hu : X.A.units + 64 < cLine) : OpR X (compareOp .Eq) (rEqP (fw X) false) := by
  intro pins s σ H x y v u Q I rx ry h
  obtain ⟨Z, w, d, e, h1, h2, p1, p2, hd, q⟩ := h
  have z := (rcAt_rv (A := X.A) (h1.rv I rx p1) (h2.rv I ry p2) p1 p2 (by have := Nat.min_le_left d.dep e.dep; omega)).1
  exact z X.prog X.w X.xe _ ⟨.bl _, H, I, rfl, q⟩
theorem op_neP (hu : X.A.units + 64 < cLine) : OpR X (compareOp .NotEq) (rEqP (fw X) true) := by
  intro pins s σ H x y v u Q I rx ry h
  obtain ⟨Z, w, d, e, h1, h2, p1, p2, hd, q⟩ := h
  have z := (rcAt_rv (A := X.A) (h1.rv I rx p1) (h2.rv I ry p2) p1 p2 (by have := Nat.min_le_left d.dep e.dep; omega)).2
  exact z X.prog X.w X.xe _ ⟨.bl _, H, I, rfl, q⟩
end
end Pd

/-! operators, indexes, slices, tests over data -/
namespace Pd
open PySem L2

/-- a list that may change, read as it stands now -/
def vw (w : Wd) : PV → PV
  | .ref a => match w a with
    | some (.lst ds) => .lst ds
    | _ => .ref a
  | d => d
section
variable {K : Kz} {w : Wd} {H : Hp} {x : V} {d : PV}
theorem vwI {i : Int} (n : Dn K w H x d) (e : vw w d = .int i) : x = .int i := by
  cases n <;> simp [vw] at e
  · rw [e]
  · split at e <;> cases e
theorem vwS {i : Str} (n : Dn K w H x d) (e : vw w d = .str i) : x = .str i := by
  cases n <;> simp [vw] at e
  · rw [e]
  · split at e <;> cases e
theorem vwB {i : Bool} (n : Dn K w H x d) (e : vw w d = .bl i) : x = .bl i := by
  cases n <;> simp [vw] at e
  · rw [e]
  · split at e <;> cases e
theorem vwN (n : Dn K w H x d) (e : vw w d = .non) : x = .non := by
  cases n <;> simp [vw] at e
  · rfl
  · split at e <;> cases e
theorem vwTy {i : String} (n : Dn K w H x d) (e : vw w d = .ty i) : x = .ty i := by
  cases n <;> simp [vw] at e
  · split at e <;> cases e
  · rw [e]
theorem vwT {ds : List PV} (n : Dn K w H x d) (e : vw w d = .tup ds) : ∃ a xs, x = .ref a ∧ Tp K w H a xs ∧ DnAll K w H xs ds := by
  cases n <;> simp [vw] at e
  · split at e <;> cases e
  · subst e; exact ⟨_, _, rfl, by assumption, by assumption⟩
theorem vwL {ds : List PV} (k : Wk K w H) (n : Dn K w H x d) (e : vw w d = .lst ds) : ∃ a xs, x = .ref a ∧ H a = some (.lst xs) ∧ DnAll K w H xs ds := by
  cases n <;> simp [vw] at e
  case ref a =>
    split at e
    · rename_i z
      cases e
      cases k.at_ a _ z with
      | lst h1 h2 => exact ⟨_, _, rfl, h1, h2⟩
    · cases e
  case lst a xs es h1 h2 => subst e; exact ⟨_, _, rfl, h1.2.2, h2⟩
theorem vwZ {ds : List PV} (n : Dn K w H x d) (e : vw w d = .scr ds) : ∃ a xs, x = .ref a ∧ Zp K w H a xs ∧ DnAll K w H xs ds := by
  cases n <;> simp [vw] at e
  · split at e <;> cases e
  · subst e; exact ⟨_, _, rfl, by assumption, by assumption⟩
end
def dAdd : R2D := fun x y w Q => match vw w x, vw w y with
  | .int i, .int j => Q (.int (i + j)) w
  | .str a, .str b => a.length + b.length ≤ sizeLine ∧ Q (.str (a ++ b)) w
  | .lst a, .lst b => a.length + b.length ≤ sizeLine ∧ Q (.lst (a ++ b)) w
  | .tup a, .tup b => a.length + b.length ≤ sizeLine ∧ Q (.tup (a ++ b)) w
  | _, _ => False
def dInt (C : Int → Int → Prop) (g : Int → Int → PV) : R2D := fun x y w Q => match vw w x, vw w y with
  | .int i, .int j => C i j ∧ Q (g i j) w
  | _, _ => False
def dSub : R2D := fun x y w Q => match vw w x, vw w y with
  | .int i, .int j => Q (.int (i - j)) w
  | _, _ => False
def dMod : R2D := dInt (fun _ j => 0 < j) fun i j => .int (i % j)
def dFdiv : R2D := dInt CDivW fun i j => .int (i / j)
def dPow : R2D := dInt CPow fun i j => .int (i ^ j.toNat)
def dMul : R2D := fun x y w Q => match vw w x, vw w y with
  | .int i, .int j => (CMul i j ∨ CMulW i j) ∧ Q (.int (i * j)) w
  | .str a, .int n => MulOk a n ∧ Q (.str (Txt.mul a n)) w
  | _, _ => False
section
variable {X : Cx} {K : Fw} {a b c e : Expr} {ta tb tc : WE} {pos : Pos}
theorem opr_le {f : Value → Value → Sem Value} {r r' : R2} (h : OpR X f r) (hl : ∀ x y H Q, r' x y H Q → r x y H Q) : OpR X f r' := fun pins s σ H x y v u Q I rx ry q => h pins s σ H x y v u Q I rx ry (hl _ _ _ _ q)
theorem de_add (ha : DE X a ta) (hb : DE X b tb) : DE X (.BinOp a .Add b pos) (wOp dAdd ta tb) := by
  refine de_op (op_add.or (op_add_str.or (op_cat.or op_catA))) ?_ ha hb
  intro Z x y H dx dy w Q' Q k nx ny h kq
  unfold dAdd at h
  split at h
  · rename_i e1 e2
    cases vwI nx e1; cases vwI ny e2
    exact .inl ⟨_, _, rfl, rfl, kq _ _ (post_same k (.int _) h)⟩
  · rename_i e1 e2
    cases vwS nx e1; cases vwS ny e2
    exact .inr (.inl ⟨_, _, rfl, rfl, h.1, kq _ _ (post_same k (.str _) h.2)⟩)
  · rename_i e1 e2
    obtain ⟨a1, x1, rfl, h1, n1⟩ := vwL k nx e1
    obtain ⟨a2, x2, rfl, h2, n2⟩ := vwL k ny e2
    refine .inr (.inr (.inl ⟨a1, a2, x1, x2, rfl, rfl, h1, h2, by rw [n1.length, n2.length]; exact h.1, fun p hp => kq _ _ (post_lst k hp (n1.append n2) h.2)⟩))
  · rename_i e1 e2
    obtain ⟨a1, x1, rfl, h1, n1⟩ := vwT nx e1
    obtain ⟨a2, x2, rfl, h2, n2⟩ := vwT ny e2
    refine .inr (.inr (.inr ⟨a1, a2, x1, x2, rfl, rfl, h1.sq, h2.sq, by rw [n1.length, n2.length]; exact h.1, fun z => ?_, fun _ z => ?_, fun _ _ p hp => kq _ _ (post_tup k hp (n1.append n2) h.2)⟩))
    · subst z; cases n1; exact kq _ _ (post_same k (.tup h2 n2) h.2)
    · subst z; cases n2; exact kq _ _ (post_same k (.tup h1 n1) (by simpa using h.2))
  · exact h.elim
theorem l_int {C : Int → Int → Prop} {g : Int → Int → Int} : L2op K (rI C fun i j => V.int (g i j)) (dInt C fun i j => .int (g i j)) := by
  intro Z x y H dx dy w Q' Q k nx ny h kq
  unfold dInt at h
  split at h
  · rename_i e1 e2
    cases vwI nx e1; cases vwI ny e2
    exact ⟨_, _, rfl, rfl, h.1, kq _ _ (post_same k (.int _) h.2)⟩
  · exact h.elim
theorem de_sub (ha : DE X a ta) (hb : DE X b tb) : DE X (.BinOp a .Sub b pos) (wOp dSub ta tb) := by
  refine de_op op_sub ?_ ha hb
  intro Z x y H dx dy w Q' Q k nx ny h kq
  unfold dSub at h
  split at h
  · rename_i e1 e2
    cases vwI nx e1; cases vwI ny e2
    exact ⟨_, _, rfl, rfl, kq _ _ (post_same k (.int _) h)⟩
  · exact h.elim
theorem de_mod (ha : DE X a ta) (hb : DE X b tb) : DE X (.BinOp a .Mod b pos) (wOp dMod ta tb) := de_op op_mod l_int ha hb
theorem de_fdiv (ha : DE X a ta) (hb : DE X b tb) : DE X (.BinOp a .FloorDiv b pos) (wOp dFdiv ta tb) := de_op op_fdivW l_int ha hb
theorem de_pow (ha : DE X a ta) (hb : DE X b tb) : DE X (.BinOp a .Pow b pos) (wOp dPow ta tb) := de_op op_pow l_int ha hb
theorem op_mulS : OpR X (binaryOp .Mult) (fun x y H Q => ∃ i n, x = .str i ∧ y = .int n ∧ MulOk i n ∧ Q (.str (Txt.mul i n)) H) := by
  intro pins s σ H x y v u Q I rx ry h
  obtain ⟨i, n, rfl, rfl, hm, q⟩ := h
  obtain ⟨t, rfl⟩ := rx
  obtain ⟨t', rfl⟩ := ry
  exact SB.mul hm fun t2 k => ⟨.str _, H, I.tok _, ⟨_, rfl⟩, q⟩
theorem de_mul (ha : DE X a ta) (hb : DE X b tb) : DE X (.BinOp a .Mult b pos) (wOp dMul ta tb) := by
  refine de_op (op_mul.or (op_mulW.or op_mulS)) ?_ ha hb
  intro Z x y H dx dy w Q' Q k nx ny h kq
  unfold dMul at h
  split at h
  · rename_i e1 e2
    cases vwI nx e1; cases vwI ny e2
    rcases h.1 with z | z
    · exact .inl ⟨_, _, rfl, rfl, z, kq _ _ (post_same k (.int _) h.2)⟩
    · exact .inr (.inl ⟨_, _, rfl, rfl, z, kq _ _ (post_same k (.int _) h.2)⟩)
  · rename_i e1 e2
    cases vwS nx e1; cases vwI ny e2
    exact .inr (.inr ⟨_, _, rfl, rfl, h.1, kq _ _ (post_same k (.str _) h.2)⟩)
  · exact h.elim
/-- -a -/
def rNeg (x : PV) (w1 : Wd) (Q : WQ) : Prop := match vw w1 x with
  | .int i => Q (.int (-i)) w1
  | _ => False
def wNeg (ta : WE) : WE := fun ρ w Q => ta ρ w fun x w1 => rNeg x w1 Q
theorem de_neg (ha : DE X a ta) : DE X (.UnaryOp .USub a pos) (wNeg ta) :=
  pe_le (pe_un un_neg ha) fun σ H Q ⟨Z, ρ, w, Q', r, h, k⟩ => up1 r h fun x H1 d w1 e1 r1 n h1 => by
    unfold rNeg at h1
    split at h1
    · rename_i e
      cases vwI n e
      exact ⟨_, rfl, k _ _ (post_trans e1 (post_same r1.wk (.int _) h1))⟩
    · exact h1.elim

/-! comparisons -/
def dEq : R2D := fun x y w Q => (x.pl = true ∧ y.pl = true ∧ x.dep ≤ 64) ∧ Q (.bl (PV.eqb x y)) w
def dNe : R2D := fun x y w Q => (x.pl = true ∧ y.pl = true ∧ x.dep ≤ 64) ∧ Q (.bl (!PV.eqb x y)) w
/-- a comparison as a rule of data -/
structure CmD (X : Cx) (op : CmpOp) (rD : R2D) : Prop where
  ex : ∃ r, OpR X (compareOp op) r ∧ L2op (fw X) r rD
theorem de_cm {op : CmpOp} {rD : R2D} (h : CmD X op rD) (ha : DE X a ta) (hb : DE X b tb) (hk : behindInMarks op b = false) : DE X (.Compare a [op] [b] pos) (wOp rD ta tb) := by
  obtain ⟨r, ho, hl⟩ := h.ex
  exact de_cmp ho hl ha hb hk
theorem cm_eq (hu : X.A.units + 64 < cLine) : CmD X .Eq dEq := by
  refine ⟨_, op_eqP hu, ?_⟩
  intro Z x y H dx dy w Q' Q k nx ny h kq
  exact ⟨Z, w, dx, dy, nx, ny, h.1.1, h.1.2.1, h.1.2.2, kq _ _ (post_same k (.bl _) h.2)⟩
theorem cm_ne (hu : X.A.units + 64 < cLine) : CmD X .NotEq dNe := by
  refine ⟨_, op_neP hu, ?_⟩
  intro Z x y H dx dy w Q' Q k nx ny h kq
  exact ⟨Z, w, dx, dy, nx, ny, h.1.1, h.1.2.1, h.1.2.2, kq _ _ (post_same k (.bl _) h.2)⟩
/-- < and its like, of numbers and of texts -/
def dOrd (f : Int → Int → Bool) (g : List Nat → List Nat → Bool) : R2D := fun x y w Q => match vw w x, vw w y with
  | .int i, .int j => Q (.bl (f i j)) w
  | .str i, .str j => Q (.bl (g i.cps.toList j.cps.toList)) w
  | _, _ => False
def dLt : R2D := dOrd (fun i j => decide (i < j)) fun i j => decide (i < j)
def dLe : R2D := dOrd (fun i j => decide (i ≤ j)) fun i j => !decide (j < i)
def dGt : R2D := dOrd (fun i j => decide (j < i)) fun i j => decide (j < i)
def dGe : R2D := dOrd (fun i j => decide (j ≤ i)) fun i j => !decide (i < j)
theorem l_ord {f : Int → Int → Bool} {g : List Nat → List Nat → Bool} : L2op K (fun x y H Q => rI0 (fun i j => .bl (f i j)) x y H Q ∨ ∃ i j, x = .str i ∧ y = .str j ∧ Q (.bl (g i.cps.toList j.cps.toList)) H) (dOrd f g) := by
  intro Z x y H dx dy w Q' Q k nx ny h kq
  unfold dOrd at h
  split at h
  · rename_i e1 e2
    cases vwI nx e1; cases vwI ny e2
    exact .inl ⟨_, _, rfl, rfl, kq _ _ (post_same k (.bl _) h)⟩
  · rename_i e1 e2
    cases vwS nx e1; cases vwS ny e2
    exact .inr ⟨_, _, rfl, rfl, kq _ _ (post_same k (.bl _) h)⟩
  · exact h.elim
theorem cm_lt : CmD X .Lt dLt := ⟨_, op_lt.or op_lt_str, l_ord⟩
theorem cm_le : CmD X .LtE dLe := ⟨_, op_le.or op_le_str, l_ord⟩
theorem cm_gt : CmD X .Gt dGt := ⟨_, op_gt.or op_gt_str, l_ord⟩
theorem cm_ge : CmD X .GtE dGe := ⟨_, op_ge.or op_ge_str, l_ord⟩
/-- a truth -/
def onB (z : PV) (k : Bool → Prop) : Prop := match z with
  | .bl b => k b
  | _ => False
theorem onB_of {K : Kz} {w : Wd} {H : Hp} {x : V} {d : PV} {k : Bool → Prop} (n : Dn K w H x d) (h : onB d k) : ∃ b, x = .bl b ∧ d = .bl b ∧ k b := by
  cases n <;> simp [onB] at h
  exact ⟨_, rfl, rfl, h⟩
/-- a op b op c -/
def wChain (r r' : R2D) (ta tb tc : WE) : WE := fun ρ w Q => ta ρ w fun x w1 => tb ρ w1 fun y w2 => r x y w2 fun z w3 => onB z fun k => if k = true then tc ρ w3 fun u w4 => r' y u w4 Q else Q (.bl false) w3
theorem de_chain {op op' : CmpOp} {rD rD' : R2D} (c1 : CmD X op rD) (c2 : CmD X op' rD') (ha : DE X a ta) (hb : DE X b tb) (hc : DE X c tc)
    (h1 : lastMarks [op, op'] [b, c] = false := by with_unfolding_all rfl) : DE X (.Compare a [op, op'] [b, c] pos) (wChain rD rD' ta tb tc) := by
  obtain ⟨r, ho, hl⟩ := c1.ex
  obtain ⟨r', ho', hl'⟩ := c2.ex
  exact pe_le (pe_chain ho ho' ha hb hc h1) fun σ H Q ⟨Z, ρ, w, Q', r0, h, k⟩ => by
    refine up1 r0 h fun x H1 dx w1 e1 r1 n1 h1 => ?_
    refine up1 r1 h1 fun y H2 dy w2 e2 r2 n2 h2 => ?_
    refine hl Z x y H2 dx dy w2 _ _ r2.wk (n1.ext e2) n2 h2 fun z H3 ⟨dz, w3, e3, k3, n3, h3⟩ => ?_
    have r3 := r2.ext e3 k3
    obtain ⟨kb, rfl, rfl, h3⟩ := onB_of n3 h3
    refine ⟨kb, rfl, ?_⟩
    cases kb with
    | true =>
      refine iteT (up1 r3 h3 fun u H4 du w4 e4 r4 n4 h4 => ?_)
      exact hl' Z y u H4 dy du w4 _ _ r4.wk ((n2.ext e3).ext e4) n4 h4 fun v H5 p => k v H5 (post_trans (e1.trans (e2.trans (e3.trans e4))) p)
    | false => exact iteF (k _ _ (post_trans (e1.trans (e2.trans e3)) (post_same k3 (.bl _) h3)))
/-- is, is not: of None, of True and False -/
def isB (x y : PV) : Option Bool := match y with
  | .non => match x with
    | .non => some true
    | _ => some false
  | .bl b => match x with
    | .bl a => some (decide (a = b))
    | _ => none
  | _ => none
def dIs (neg : Bool) : R2D := fun x y w Q => match isB x y with
  | some k => Q (.bl (if neg then !k else k)) w
  | none => False
theorem nonIs {K : Kz} {w : Wd} {H : Hp} {x : V} {d : PV} (n : Dn K w H x d) {k : Bool} (h : isB d .non = some k) : decide (x = .non) = k := by
  cases n <;> simp [isB] at h <;> simp [h]
theorem cm_is : CmD X .Is (dIs false) := by
  refine ⟨_, op_isN.or op_isBl, ?_⟩
  intro Z x y H dx dy w Q' Q k nx ny h kq
  unfold dIs at h
  split at h
  · rename_i kk e
    cases ny with
    | non => exact .inl ⟨rfl, by rw [nonIs nx e]; exact kq _ _ (post_same k (.bl _) h)⟩
    | bl b =>
      cases nx <;> simp [isB] at e
      exact .inr ⟨_, _, rfl, rfl, by rw [e]; exact kq _ _ (post_same k (.bl _) h)⟩
    | _ => simp [isB] at e
  · exact h.elim
theorem cm_isnot : CmD X .IsNot (dIs true) := by
  refine ⟨_, op_notN.or op_notBl, ?_⟩
  intro Z x y H dx dy w Q' Q k nx ny h kq
  unfold dIs at h
  split at h
  · rename_i kk e
    cases ny with
    | non => exact .inl ⟨rfl, by rw [nonIs nx e]; exact kq _ _ (post_same k (.bl _) h)⟩
    | bl b =>
      cases nx <;> simp [isB] at e
      exact .inr ⟨_, _, rfl, rfl, by rw [e]; exact kq _ _ (post_same k (.bl _) h)⟩
    | _ => simp [isB] at e
  · exact h.elim
end
/-! in, not in -/
noncomputable def rdOf (h : Heap) (u : Value) : PV := by
  classical
  exact if e : ∃ d, Rv h u d then e.choose else .non
theorem rdOf_eq {h : Heap} {u : Value} {d : PV} (r : Rv h u d) : rdOf h u = d := by
  unfold rdOf
  have e : ∃ d, Rv h u d := ⟨d, r⟩
  rw [dif_pos e]
  exact e.choose_spec.uniq r
theorem rdOf_any {h : Heap} {f : PV → Bool} : ∀ {us : List Value} {ds : List PV}, RvAll h us ds → us.any (fun u => f (rdOf h u)) = ds.any f
  | _, _, .nil => rfl
  | _, _, .cons r rr => by rw [List.any_cons, List.any_cons, rdOf_eq r, rdOf_any rr]
theorem rvs_mem {h : Heap} : ∀ {us : List Value} {ds : List PV}, RvAll h us ds → ∀ u ∈ us, ∃ d ∈ ds, Rv h u d
  | _, _, .nil, u, hu => by cases hu
  | _, _, .cons r rr, u, hu => by
    rcases List.mem_cons.mp hu with rfl | hu
    · exact ⟨_, List.mem_cons_self, r⟩
    · obtain ⟨d, h1, h2⟩ := rvs_mem rr u hu
      exact ⟨d, List.mem_cons_of_mem _ h1, h2⟩
theorem pls_mem : ∀ {ds : List PV}, PV.pls ds = true → ∀ d ∈ ds, d.pl = true
  | [], _, d, hd => by cases hd
  | x :: xs, h, d, hd => by
    have h' : x.pl = true ∧ PV.pls xs = true := by simpa [PV.pls] using h
    rcases List.mem_cons.mp hd with rfl | hd
    · exact h'.1
    · exact pls_mem h'.2 d hd
section
variable {X : Cx} {a b : Expr} {ta tb : WE} {pos : Pos}
def rInP (K : Fw) (neg : Bool) : R2 := fun x y H Q => ∃ Z w d ys es p, Dn ⟨K, Z⟩ w H x d ∧ y = .ref p ∧ (SqL K.F H p ys ∨ SqT K.F H p ys) ∧ DnAll ⟨K, Z⟩ w H ys es ∧ d.pl = true ∧ PV.pls es = true ∧ d.dep ≤ 63 ∧ Q (.bl (if neg then !es.any (fun e => PV.eqb e d) else es.any (fun e => PV.eqb e d))) H
theorem in_items {s : Shared} {A : Around} {us : List Value} {es : List PV} {v : Value} {d : PV} (hu : A.units + 64 < cLine) (r : RvAll s.heap us es) (rd : Rv s.heap v d) (hp : d.pl = true) (hq : PV.pls es = true) (hd : d.dep ≤ 63) :
    ∀ u ∈ us.toArray, SeqAt.EqAt A.in1 s u v (PV.eqb (rdOf s.heap u) d) := fun u hm => by
  obtain ⟨e, he, re⟩ := rvs_mem r u (by simpa using hm)
  rw [rdOf_eq re]
  refine eqAt_rv e d A.in1 s u v re rd (pls_mem hq e he) hp ?_
  have h1 := Nat.min_le_right e.dep d.dep
  show A.units + 1 + min e.dep d.dep < cLine
  omega
theorem op_inP (hu : X.A.units + 64 < cLine) : OpR X (compareOp .In) (rInP (fw X) false) := by
  intro pins s σ H x y v u Q I rx ry h
  obtain ⟨Z, w, d, ys, es, p, hd, rfl, hq, hn, p1, p2, hz, q⟩ := h
  cases ry
  have rd := hd.rv I rx p1
  rcases hq with hq | hq
  · obtain ⟨its, r, pl, _⟩ := I.list hq
    have ra := hn.rv I r p2
    refine SeqAt.in_listAt (fun u => PV.eqb (rdOf s.heap u) d) pl.isList (in_items hu ra rd p1 p2 hz) ⟨.bl _, H, I, rfl, ?_⟩
    rw [show its.toArray.any (fun u => PV.eqb (rdOf s.heap u) d) = its.any (fun u => PV.eqb (rdOf s.heap u) d) by simp, rdOf_any (f := fun e => PV.eqb e d) ra]
    exact q
  · obtain ⟨its, r, pl, _⟩ := I.tuple hq
    have ra := hn.rv I r p2
    refine SeqAt.in_tupleAt (fun u => PV.eqb (rdOf s.heap u) d) pl (in_items hu ra rd p1 p2 hz) ⟨.bl _, H, I, rfl, ?_⟩
    rw [show its.toArray.any (fun u => PV.eqb (rdOf s.heap u) d) = its.any (fun u => PV.eqb (rdOf s.heap u) d) by simp, rdOf_any (f := fun e => PV.eqb e d) ra]
    exact q
theorem op_notInP (hu : X.A.units + 64 < cLine) : OpR X (compareOp .NotIn) (rInP (fw X) true) := by
  intro pins s σ H x y v u Q I rx ry h
  obtain ⟨Z, w, d, ys, es, p, hd, rfl, hq, hn, p1, p2, hz, q⟩ := h
  cases ry
  have rd := hd.rv I rx p1
  rcases hq with hq | hq
  · obtain ⟨its, r, pl, _⟩ := I.list hq
    have ra := hn.rv I r p2
    refine SeqAt.notIn_listAt (fun u => PV.eqb (rdOf s.heap u) d) pl.isList (in_items hu ra rd p1 p2 hz) ⟨.bl _, H, I, rfl, ?_⟩
    rw [show its.toArray.any (fun u => PV.eqb (rdOf s.heap u) d) = its.any (fun u => PV.eqb (rdOf s.heap u) d) by simp, rdOf_any (f := fun e => PV.eqb e d) ra]
    exact q
  · obtain ⟨its, r, pl, _⟩ := I.tuple hq
    have ra := hn.rv I r p2
    refine SeqAt.notIn_tupleAt (fun u => PV.eqb (rdOf s.heap u) d) pl (in_items hu ra rd p1 p2 hz) ⟨.bl _, H, I, rfl, ?_⟩
    rw [show its.toArray.any (fun u => PV.eqb (rdOf s.heap u) d) = its.any (fun u => PV.eqb (rdOf s.heap u) d) by simp, rdOf_any (f := fun e => PV.eqb e d) ra]
    exact q
/-- x in y: one sign in a text, data in a list or tuple of data -/
def dIn (neg : Bool) : R2D := fun x y w Q => match vw w y with
  | .str z => match x with
    | .str u => ∃ c, u = ⟨#[c]⟩ ∧ Q (.bl (if neg then !decide (c ∈ z.cps.toList) else decide (c ∈ z.cps.toList))) w
    | _ => False
  | .lst es => (x.pl = true ∧ PV.pls es = true ∧ x.dep ≤ 63) ∧ Q (.bl (if neg then !es.any (fun e => PV.eqb e x) else es.any (fun e => PV.eqb e x))) w
  | .tup es => (x.pl = true ∧ PV.pls es = true ∧ x.dep ≤ 63) ∧ Q (.bl (if neg then !es.any (fun e => PV.eqb e x) else es.any (fun e => PV.eqb e x))) w
  | _ => False
theorem cm_in (hu : X.A.units + 64 < cLine) : CmD X .In (dIn false) := by
  refine ⟨_, op_in_sign.or (op_inP hu), ?_⟩
  intro Z x y H dx dy w Q' Q k nx ny h kq
  unfold dIn at h
  split at h
  · rename_i e
    split at h
    · cases vwS ny e
      cases nx
      obtain ⟨c, rfl, h⟩ := h
      exact .inl ⟨c, _, rfl, rfl, kq _ _ (post_same k (.bl _) h)⟩
    · exact h.elim
  · rename_i e
    obtain ⟨p, ys, rfl, hh, hn⟩ := vwL k ny e
    exact .inr ⟨Z, w, dx, ys, _, p, nx, rfl, .inl (SqL.of hh), hn, h.1.1, h.1.2.1, h.1.2.2, kq _ _ (post_same k (.bl _) h.2)⟩
  · rename_i e
    obtain ⟨p, ys, rfl, hh, hn⟩ := vwT ny e
    exact .inr ⟨Z, w, dx, ys, _, p, nx, rfl, .inr hh.sq, hn, h.1.1, h.1.2.1, h.1.2.2, kq _ _ (post_same k (.bl _) h.2)⟩
  · exact h.elim
theorem cm_notin (hu : X.A.units + 64 < cLine) : CmD X .NotIn (dIn true) := by
  refine ⟨_, op_notIn_sign.or (op_notInP hu), ?_⟩
  intro Z x y H dx dy w Q' Q k nx ny h kq
  unfold dIn at h
  split at h
  · rename_i e
    split at h
    · cases vwS ny e
      cases nx
      obtain ⟨c, rfl, h⟩ := h
      exact .inl ⟨c, _, rfl, rfl, kq _ _ (post_same k (.bl _) h)⟩
    · exact h.elim
  · rename_i e
    obtain ⟨p, ys, rfl, hh, hn⟩ := vwL k ny e
    exact .inr ⟨Z, w, dx, ys, _, p, nx, rfl, .inl (SqL.of hh), hn, h.1.1, h.1.2.1, h.1.2.2, kq _ _ (post_same k (.bl _) h.2)⟩
  · rename_i e
    obtain ⟨p, ys, rfl, hh, hn⟩ := vwT ny e
    exact .inr ⟨Z, w, dx, ys, _, p, nx, rfl, .inr hh.sq, hn, h.1.1, h.1.2.1, h.1.2.2, kq _ _ (post_same k (.bl _) h.2)⟩
  · exact h.elim
end
end Pd

/-! tests, items, slices, displays, calls of built-ins, statements, loops -/
namespace Pd
open PySem L2

/-! tests -/
def wTest (t : WE) : WT := fun ρ w Q => t ρ w fun z w1 => onB z fun b => Q b w1
def wAndT (t u : WT) : WT := fun ρ w Q => t ρ w fun c w1 => if c = true then u ρ w1 Q else Q false w1
def wOrT (t u : WT) : WT := fun ρ w Q => t ρ w fun c w1 => if c = true then Q true w1 else u ρ w1 Q
def wNotT (t : WT) : WT := fun ρ w Q => t ρ w fun c w1 => Q (!c) w1
def wAndV (ta tb : WE) : WE := fun ρ w Q => ta ρ w fun x w1 => onB x fun c => if c = true then tb ρ w1 Q else Q (.bl false) w1
def wOrV (ta tb : WE) : WE := fun ρ w Q => ta ρ w fun x w1 => onB x fun c => if c = true then Q (.bl true) w1 else tb ρ w1 Q
def wNotV (ta : WE) : WE := fun ρ w Q => ta ρ w fun x w1 => onB x fun c => Q (.bl (!c)) w1
def wIfE (t : WT) (ta tb : WE) : WE := fun ρ w Q => t ρ w fun c w1 => if c = true then ta ρ w1 Q else tb ρ w1 Q
section
variable {X : Cx} {a b c e : Expr} {ta tb tc : WE} {tA tB : WT} {rest es : List Expr} {pos : Pos}
theorem dt_val (h : DE X e ta) (he : ∀ whole, isTrue e X.env whole = (do let v ← whole; standAt e.pos; holding [v] (truthy v)) := by intro _; rfl) : DT X e (wTest ta) :=
  pt_le (pt_val h he) fun σ H Q ⟨Z, ρ, w, Q', r, h, k⟩ => up1 r h fun x H1 d w1 e1 r1 n h1 => by
    obtain ⟨b, rfl, rfl, h1⟩ := onB_of n h1
    exact ⟨b, rfl, k _ _ ⟨w1, e1, r1.wk, h1⟩⟩
theorem dt_cm {op : CmpOp} {rD : R2D} (h : CmD X op rD) (ha : DE X a ta) (hb : DE X b tb) (hk : behindInMarks op b = false) : DT X (.Compare a [op] [b] pos) (wTest (wOp rD ta tb)) := by
  obtain ⟨r, ho, hl⟩ := h.ex
  refine pt_le (pt_cmpR ho ha hb hk) fun σ H Q ⟨Z, ρ, w, Q', r0, h, k⟩ => ?_
  refine up1 r0 h fun x H1 dx w1 e1 r1 n1 h1 => ?_
  refine up1 r1 h1 fun y H2 dy w2 e2 r2 n2 h2 => ?_
  refine hl Z x y H2 dx dy w2 _ _ r2.wk (n1.ext e2) n2 h2 fun z H3 ⟨dz, w3, e3, k3, n3, h3⟩ => ?_
  obtain ⟨b, rfl, rfl, h3⟩ := onB_of n3 h3
  exact ⟨b, rfl, k _ _ ⟨w3, e1.trans (e2.trans e3), k3, h3⟩⟩
theorem dt_chain {op op' : CmpOp} {rD rD' : R2D} (c1 : CmD X op rD) (c2 : CmD X op' rD') (ha : DE X a ta) (hb : DE X b tb) (hc : DE X c tc)
    (h1 : lastMarks [op, op'] [b, c] = false := by with_unfolding_all rfl) : DT X (.Compare a [op, op'] [b, c] pos) (wTest (wChain rD rD' ta tb tc)) := by
  obtain ⟨r, ho, hl⟩ := c1.ex
  obtain ⟨r', ho', hl'⟩ := c2.ex
  refine pt_le (pt_chain ho ho' ha hb hc h1) fun σ H Q ⟨Z, ρ, w, Q', r0, h, k⟩ => ?_
  refine up1 r0 h fun x H1 dx w1 e1 r1 n1 h1 => ?_
  refine up1 r1 h1 fun y H2 dy w2 e2 r2 n2 h2 => ?_
  refine hl Z x y H2 dx dy w2 _ _ r2.wk (n1.ext e2) n2 h2 fun z H3 ⟨dz, w3, e3, k3, n3, h3⟩ => ?_
  have r3 := r2.ext e3 k3
  obtain ⟨kb, rfl, rfl, h3⟩ := onB_of n3 h3
  refine ⟨kb, rfl, ?_⟩
  cases kb with
  | true =>
    refine iteT (up1 r3 h3 fun u H4 du w4 e4 r4 n4 h4 => ?_)
    refine hl' Z y u H4 dy du w4 _ _ r4.wk ((n2.ext e3).ext e4) n4 h4 fun v H5 ⟨d5, w5, e5, k5, n5, h5⟩ => ?_
    obtain ⟨b, rfl, rfl, h5⟩ := onB_of n5 h5
    exact ⟨b, rfl, k _ _ ⟨w5, e1.trans (e2.trans (e3.trans (e4.trans e5))), k5, h5⟩⟩
  | false =>
    refine iteF ?_
    have h3 : Q' false w3 := by simpa [onB] using h3
    exact ⟨false, rfl, k _ _ ⟨w3, e1.trans (e2.trans e3), k3, h3⟩⟩
theorem dw_and1 (ha : DT X a tA) : DW X (.BoolOp .And [a] pos) tA := pw_and1 ha
theorem dw_or1 (ha : DT X a tA) : DW X (.BoolOp .Or [a] pos) tA := pw_or1 ha
theorem dw_and (ha : DT X a tA) (hb : DW X (.BoolOp .And (b :: rest) pos) tB) : DW X (.BoolOp .And (a :: b :: rest) pos) (wAndT tA tB) :=
  pw_le (pw_and ha hb) fun σ H Q ⟨Z, ρ, w, Q', r, h, k⟩ => upT1 r h fun x H1 w1 e1 r1 h1 => by
    cases x with
    | true => exact iteT (upT1 r1 (by simpa using h1) fun y H2 w2 e2 r2 h2 => k _ _ ⟨w2, e1.trans e2, r2.wk, h2⟩)
    | false => exact iteF (k _ _ ⟨w1, e1, r1.wk, by simpa using h1⟩)
theorem dw_or (ha : DT X a tA) (hb : DW X (.BoolOp .Or (b :: rest) pos) tB) : DW X (.BoolOp .Or (a :: b :: rest) pos) (wOrT tA tB) :=
  pw_le (pw_or ha hb) fun σ H Q ⟨Z, ρ, w, Q', r, h, k⟩ => upT1 r h fun x H1 w1 e1 r1 h1 => by
    cases x with
    | true => exact iteT (k _ _ ⟨w1, e1, r1.wk, by simpa using h1⟩)
    | false => exact iteF (upT1 r1 (by simpa using h1) fun y H2 w2 e2 r2 h2 => k _ _ ⟨w2, e1.trans e2, r2.wk, h2⟩)
theorem dt_w (h : DW X e tA) : DT X e tA := PW.pt h
theorem dt_not (ha : DT X a tA) : DT X (.UnaryOp .Not a pos) (wNotT tA) :=
  pt_le (pt_not ha) fun σ H Q ⟨Z, ρ, w, Q', r, h, k⟩ => upT1 r h fun x H1 w1 e1 r1 h1 => k _ _ ⟨w1, e1, r1.wk, h1⟩
theorem de_one {op} (h : DE X a ta) : DE X (.BoolOp op [a] pos) ta := pe_one h
theorem de_and (ha : DE X a ta) (hb : DE X (.BoolOp .And (b :: rest) pos) tb) : DE X (.BoolOp .And (a :: b :: rest) pos) (wAndV ta tb) :=
  pe_le (pe_and ha hb) fun σ H Q ⟨Z, ρ, w, Q', r, h, k⟩ => up1 r h fun x H1 d w1 e1 r1 n h1 => by
    obtain ⟨kb, rfl, rfl, hq⟩ := onB_of n h1
    refine ⟨kb, rfl, ?_⟩
    cases kb with
    | true => exact iteT (up1 r1 (by simpa using hq) fun y H2 dy w2 e2 r2 n2 h2 => k _ _ ⟨dy, w2, e1.trans e2, r2.wk, n2, h2⟩)
    | false => exact iteF (k _ _ ⟨_, w1, e1, r1.wk, .bl _, by simpa using hq⟩)
theorem de_or (ha : DE X a ta) (hb : DE X (.BoolOp .Or (b :: rest) pos) tb) : DE X (.BoolOp .Or (a :: b :: rest) pos) (wOrV ta tb) :=
  pe_le (pe_or ha hb) fun σ H Q ⟨Z, ρ, w, Q', r, h, k⟩ => up1 r h fun x H1 d w1 e1 r1 n h1 => by
    obtain ⟨kb, rfl, rfl, hq⟩ := onB_of n h1
    refine ⟨kb, rfl, ?_⟩
    cases kb with
    | true => exact iteT (k _ _ ⟨_, w1, e1, r1.wk, .bl _, by simpa using hq⟩)
    | false => exact iteF (up1 r1 (by simpa using hq) fun y H2 dy w2 e2 r2 n2 h2 => k _ _ ⟨dy, w2, e1.trans e2, r2.wk, n2, h2⟩)
theorem de_not (ha : DE X a ta) : DE X (.UnaryOp .Not a pos) (wNotV ta) :=
  pe_le (pe_not ha) fun σ H Q ⟨Z, ρ, w, Q', r, h, k⟩ => up1 r h fun x H1 d w1 e1 r1 n h1 => by
    obtain ⟨kb, rfl, rfl, hq⟩ := onB_of n h1
    exact ⟨kb, rfl, k _ _ ⟨_, w1, e1, r1.wk, .bl _, hq⟩⟩
theorem de_ifE (hc : DT X c tA) (ha : DE X a ta) (hb : DE X b tb) : DE X (.IfExp c a b pos) (wIfE tA ta tb) :=
  pe_le (pe_ifExp hc ha hb) fun σ H Q ⟨Z, ρ, w, Q', r, h, k⟩ => upT1 r h fun x H1 w1 e1 r1 h1 => by
    cases x with
    | true => exact iteT (up1 r1 (by simpa using h1) fun y H2 dy w2 e2 r2 n2 h2 => k _ _ ⟨dy, w2, e1.trans e2, r2.wk, n2, h2⟩)
    | false => exact iteF (up1 r1 (by simpa using h1) fun y H2 dy w2 e2 r2 n2 h2 => k _ _ ⟨dy, w2, e1.trans e2, r2.wk, n2, h2⟩)

/-! items -/
def dIx : R2D := fun x y w Q => match vw w x, y with
  | .lst ds, .int i => ∃ d, atI ds i = some d ∧ Q d w
  | .tup ds, .int i => ∃ d, atI ds i = some d ∧ Q d w
  | .scr ds, .int i => ∃ d, atI ds i = some d ∧ Q d w
  | .str z, .int i => z.length ≤ sizeLine ∧ ∃ c, atI z.cps.toList i = some c ∧ Q (.str ⟨#[c]⟩) w
  | _, _ => False
theorem atI_dn {K : Kz} {w : Wd} {H : Hp} {vs : List V} {ds : List PV} {i : Int} {d : PV} (n : DnAll K w H vs ds) (h : atI ds i = some d) : ∃ v, atI vs i = some v ∧ Dn K w H v d := by
  unfold atI at h ⊢
  rw [n.length]
  cases e : ixN ds.length i with
  | none => rw [e] at h; cases h
  | some j =>
    rw [e] at h
    obtain ⟨v, h1, h2⟩ := n.get (show ds[j]? = some d from h)
    exact ⟨v, h1, h2⟩
theorem de_ix (ha : DE X a ta) (hb : DE X b tb) (hs : PlainIx b := by exact fun _ _ => rfl) : DE X (.Subscript a b pos) (wOp dIx ta tb) := by
  refine pe_le (pe_ix ix_seq ha hb hs) fun _ _ _ h => up_op (rD := dIx) ?_ h
  intro Z x y H dx dy w Q' Q k nx ny h kq
  unfold dIx at h
  split at h
  · rename_i e
    cases ny
    obtain ⟨p, ys, rfl, hh, hn⟩ := vwL k nx e
    obtain ⟨d, hd, q⟩ := h
    obtain ⟨v, h1, h2⟩ := atI_dn hn hd
    exact .inl ⟨p, ys, _, v, rfl, rfl, SqL.of hh, h1, kq _ _ (post_same k h2 q)⟩
  · rename_i e
    cases ny
    obtain ⟨p, ys, rfl, hh, hn⟩ := vwT nx e
    obtain ⟨d, hd, q⟩ := h
    obtain ⟨v, h1, h2⟩ := atI_dn hn hd
    exact .inr (.inl ⟨p, ys, _, v, rfl, rfl, hh.sq, h1, kq _ _ (post_same k h2 q)⟩)
  · rename_i e
    cases ny
    obtain ⟨p, ys, rfl, hh, hn⟩ := vwZ nx e
    obtain ⟨d, hd, q⟩ := h
    obtain ⟨v, h1, h2⟩ := atI_dn hn hd
    exact .inl ⟨p, ys, _, v, rfl, rfl, hh.sq, h1, kq _ _ (post_same k h2 q)⟩
  · rename_i e
    cases ny
    cases vwS nx e
    obtain ⟨hz, c, hc, q⟩ := h
    exact .inr (.inr ⟨_, _, c, rfl, rfl, hz, hc, kq _ _ (post_same k (.str _) q)⟩)
  · exact h.elim
end
/-! slices -/
abbrev WO := Sl → Wd → (Option Int → Wd → Prop) → Prop
def upO (K : Fw) (t : WO) : TO := fun σ H Q => ∃ Z ρ w Q', Rep ⟨K, Z⟩ ρ w σ H ∧ t ρ w Q' ∧ ∀ o H' w', Ext w H w' H' → Wk ⟨K, Z⟩ w' H' → Q' o w' → Q o H'
abbrev DO (X : Cx) (e : Option Expr) (t : WO) : Prop := PO X e (upO (fw X) t)
def wNo : WO := fun _ w Q => Q none w
def onI (x : PV) (k : Int → Prop) : Prop := match x with
  | .int i => k i
  | _ => False
def wPart (t : WE) : WO := fun ρ w Q => t ρ w fun x w1 => onI x fun i => Q (some i) w1
/-- the part of a list -/
def cutD {α : Type} (xs : List α) (lo hi : Option Int) : List α := (xs.drop (HT.sIx xs.length 0 lo)).take (HT.sIx xs.length xs.length hi - HT.sIx xs.length 0 lo)
def rSl (l u : Option Int) (x : PV) (w3 : Wd) (Q : WQ) : Prop := match vw w3 x with
  | .lst ds => Q (.lst (cutD ds l u)) w3
  | .scr ds => Q (.lst (cutD ds l u)) w3
  | .tup ds => Q (.tup (cutD ds l u)) w3
  | .str z => z.length ≤ sizeLine ∧ Q (.str (cutS z l u)) w3
  | _ => False
def wSl (te : WE) (tl th : WO) : WE := fun ρ w Q => te ρ w fun x w1 => tl ρ w1 fun l w2 => th ρ w2 fun u w3 => rSl l u x w3 Q
theorem DnAll.cut {K : Kz} {w : Wd} {H : Hp} {vs : List V} {ds : List PV} (n : DnAll K w H vs ds) (lo hi : Option Int) : DnAll K w H (cutV vs lo hi) (cutD ds lo hi) := by
  unfold cutV cutD
  rw [n.length]
  exact (n.drop _).take _
section
variable {X : Cx} {a b c e : Expr} {lo hi : Option Expr} {ta tb te : WE} {tl th : WO} {tA tB : WT} {rest es : List Expr} {pos p2 : Pos}
theorem do_none : DO X none wNo := ⟨fun pins s σ H Q I h => (po_none (X := X)).run pins s σ H Q I (by
  obtain ⟨Z, ρ, w, Q', r, h, k⟩ := h
  exact k _ _ w (Ext.refl _ _) r.wk h)⟩
theorem do_some (h : DE X e te) : DO X (some e) (wPart te) := ⟨fun pins s σ H Q I hh => (po_some h).run pins s σ H Q I (by
  obtain ⟨Z, ρ, w, Q', r, h, k⟩ := hh
  refine up1 r h fun x H1 d w1 e1 r1 n h1 => ?_
  cases n with
  | int i => exact ⟨i, rfl, k _ _ w1 e1 r1.wk h1⟩
  | _ => exact h1.elim)⟩
theorem de_slice (he : DE X e te) (hl : DO X lo tl) (hu : DO X hi th) : DE X (.Subscript e (.Slice lo hi none p2) pos) (wSl te tl th) := by
  refine pe_le (pe_slice (sl_list.or (sl_tupA.or sl_str)) he hl hu) fun σ H Q ⟨Z, ρ, w, Q', r, h, k⟩ => ?_
  refine up1 r h fun x H1 d w1 e1 r1 n1 h1 => ?_
  refine ⟨Z, ρ, w1, _, r1, h1, fun l H2 w2 e2 k2 h2 => ?_⟩
  have r2 := r1.ext e2 k2
  refine ⟨Z, ρ, w2, _, r2, h2, fun u H3 w3 e3 k3 h3 => ?_⟩
  have n3 := (n1.ext e2).ext e3
  have e13 := e1.trans (e2.trans e3)
  unfold rSl at h3
  split at h3
  · rename_i e
    obtain ⟨p, ys, rfl, hh, hn⟩ := vwL k3 n3 e
    exact .inl ⟨p, ys, rfl, SqL.of hh, fun q hq => k _ _ (post_trans e13 (post_lst k3 hq (hn.cut l u) h3))⟩
  · rename_i e
    obtain ⟨p, ys, rfl, hh, hn⟩ := vwZ n3 e
    exact .inl ⟨p, ys, rfl, hh.sq, fun q hq => k _ _ (post_trans e13 (post_lst k3 hq (hn.cut l u) h3))⟩
  · rename_i ds e
    obtain ⟨p, ys, rfl, hh, hn⟩ := vwT n3 e
    refine .inr (.inl ⟨p, ys, rfl, hh.sq, fun z => ?_, fun _ q hq => k _ _ (post_trans e13 (post_tup k3 hq (hn.cut l u) h3))⟩)
    have w1 : cutD ds l u = ds := by
      unfold cutD
      rw [← hn.length, z.1, z.2, List.drop_zero, hn.length, Nat.sub_zero, List.take_length]
    rw [w1] at h3
    exact k _ _ (post_trans e13 (post_same k3 (.tup hh hn) h3))
  · rename_i e
    cases vwS n3 e
    exact .inr (.inr ⟨_, rfl, h3.1, k _ _ (post_trans e13 (post_same k3 (.str _) h3.2))⟩)
  · exact h3.elim

/-! argument lists, displays -/
def wNil : WA := fun _ w Q => Q [] w
def wCons (ta : WE) (tr : WA) : WA := fun ρ w Q => ta ρ w fun x w1 => tr ρ w1 fun xs w2 => Q (x :: xs) w2
theorem da_nil : DA X [] wNil := pa_le pa_nil fun σ H Q ⟨Z, ρ, w, Q', r, h, k⟩ => k _ _ ⟨[], w, Ext.refl _ _, r.wk, .nil, h⟩
theorem da_cons {t : WA} (ha : DE X e te) (hr : DA X es t) (hs : starEach (e :: es) X.env = (false, eval e X.env) :: starEach es X.env := by rfl) : DA X (e :: es) (wCons te t) :=
  pa_le (pa_cons ha hr hs) fun σ H Q ⟨Z, ρ, w, Q', r, h, k⟩ => up1 r h fun x H1 d w1 e1 r1 n1 h1 => upA1 r1 h1 fun xs H2 ds w2 e2 r2 n2 h2 => k _ _ ⟨_, w2, e1.trans e2, r2.wk, .cons (n1.ext e2) n2, h2⟩
def wTup (t : WA) : WE := fun ρ w Q => t ρ w fun xs w1 => xs.length ≤ sizeLine ∧ Q (.tup xs) w1
def wLst (t : WA) : WE := fun ρ w Q => t ρ w fun xs w1 => xs.length ≤ sizeLine ∧ Q (.lst xs) w1
theorem de_tup {x1} {t : WA} (h : DA X es t) : DE X (.Tuple es x1 pos) (wTup t) :=
  pe_le (pe_tup h) fun σ H Q ⟨Z, ρ, w, Q', r, h, k⟩ => upA1 r h fun xs H1 ds w1 e1 r1 n1 h1 => ⟨by rw [n1.length]; exact h1.1, fun p hp => k _ _ (post_trans e1 (post_tup r1.wk hp n1 h1.2))⟩
theorem de_lst {t : WA} (h : DA X es t) : DE X (.List es pos) (wLst t) :=
  pe_le (pe_lst h) fun σ H Q ⟨Z, ρ, w, Q', r, h, k⟩ => upA1 r h fun xs H1 ds w1 e1 r1 n1 h1 => ⟨by rw [n1.length]; exact h1.1, fun p hp => k _ _ (post_trans e1 (post_lst r1.wk hp n1 h1.2))⟩

/-! a new list that may change: its own thing in the world -/
theorem post_mlst {K : Kz} {w : Wd} {H : Hp} {Q : WQ} {xs : List V} {ds : List PV} {p : Addr} (k : Wk K w H) (hp : H p = none) (n : DnAll K w H xs ds) (q : ∀ p, w p = none → Q (.ref p) (wset w p (.lst ds))) : Post K w H Q (.ref p) (upd H p (.lst xs)) := by
  have e : Ext w H (wset w p (.lst ds)) (upd H p (.lst xs)) := fun b o h1 h2 => by
    have q : b ≠ p := ne_of_none h2 hp
    exact ⟨by rw [wset_ne q]; exact h1, by rw [upd_ne q]; exact h2⟩
  refine ⟨.ref p, _, e, ⟨fun a m h => ?_, fun b z => ?_⟩, .ref p, q p (k.off hp)⟩
  rotate_left
  · obtain ⟨h1, o, h2⟩ := k.zin b z
    exact ⟨(e b o h1 h2).1, o, (e b o h1 h2).2⟩
  by_cases ha : a = p
  · subst ha
    rw [wset_same] at h
    cases h
    exact .lst upd_same (n.ext e)
  · rw [wset_ne ha] at h
    have hh : upd H p (.lst xs) a = H a := upd_ne ha
    cases k.at_ a m h with
    | lst h1 h2 => exact .lst (hh.trans h1) (h2.ext e)
    | dct h1 h2 => exact .dct (hh.trans h1) (h2.ext e)
    | dcp h1 h2 => exact .dcp (hh.trans h1) (KpOk.ext e h2)
    | ins h1 h2 => exact .ins (hh.trans h1) (h2.ext e)
def wMLst (t : WA) : WE := fun ρ w Q => t ρ w fun xs w1 => xs.length ≤ sizeLine ∧ ∀ p, w1 p = none → Q (.ref p) (wset w1 p (.lst xs))
theorem de_mlst {t : WA} (h : DA X es t) : DE X (.List es pos) (wMLst t) :=
  pe_le (pe_lst h) fun σ H Q ⟨Z, ρ, w, Q', r, h, k⟩ => upA1 r h fun xs H1 ds w1 e1 r1 n1 h1 => ⟨by rw [n1.length]; exact h1.1, fun p hp => k _ _ (post_trans e1 (post_mlst r1.wk hp n1 h1.2))⟩
end
end Pd

/-! calls, statements, loops, comprehensions -/
namespace Pd
open PySem L2

/-! built-ins by values -/
abbrev RcD := List PV → Wd → WQ → Prop
structure CaD (X : Cx) (f : Value) (rD : RcD) : Prop where
  ex : ∃ r, CallR X f r ∧ ∀ (Z : Addr → Prop) xs H ds w Q' (Q : VK), Wk ⟨fw X, Z⟩ w H → DnAll ⟨fw X, Z⟩ w H xs ds → rD ds w Q' → (∀ v H', Post ⟨fw X, Z⟩ w H Q' v H' → Q v H') → r xs H Q
def wCB (r : RcD) (t : WA) : WE := fun ρ w Q => t ρ w fun ds w1 => r ds w1 Q
section
variable {X : Cx} {x : Str} {p pos : Pos} {e : Expr} {es : List Expr} {t : WA} {nid T : String} {r : RcD}
theorem up_call {K : Fw} {r0 : List V → Hp → VK → Prop} {rD : RcD} (hl : ∀ (Z : Addr → Prop) xs H ds w Q' (Q : VK), Wk ⟨K, Z⟩ w H → DnAll ⟨K, Z⟩ w H xs ds → rD ds w Q' → (∀ v H', Post ⟨K, Z⟩ w H Q' v H' → Q v H') → r0 xs H Q) {t : WA} {σ : St} {H : Hp} {Q : VK}
    (h : upE K (wCB rD t) σ H Q) : tCB r0 (upA K t) σ H Q := by
  obtain ⟨Z, ρ, w, Q', rp, h, k⟩ := h
  exact upA1 rp h fun xs H1 ds w1 e1 r1 n1 h1 => hl Z xs H1 ds w1 Q' Q r1.wk n1 h1 fun v H' p => k v H' (post_trans e1 p)
theorem de_callB (hc : CaD X (.builtin nid) r) (hg : Gl X x) (hm : X.mg x = none) (hv : bootBuiltins x = some (.builtin nid)) (ha : DA X (e :: es) t) (hn : x ≠ "__name__" := by decide) (hdb : (x == ("__debug__" : Str)) = false := by decide)
    (he : starEach (e :: es) X.env = (false, eval e X.env) :: starEach es X.env := by rfl) (hpl : (backTo pos (starEach es X.env)).any (·.1) = false := by rfl) : DE X (.Call (.Name x p) (e :: es) [] pos) (wCB r t) := by
  obtain ⟨r0, h1, h2⟩ := hc.ex
  exact pe_le (pe_callB h1 hg hm hv ha hn hdb he hpl) fun _ _ _ h => up_call h2 h
theorem de_callTy (hc : CaD X (.type T) r) (hg : Gl X x) (hm : X.mg x = none) (hv : bootBuiltins x = some (.type T)) (ha : DA X (e :: es) t) (hn : x ≠ "__name__" := by decide) (hdb : (x == ("__debug__" : Str)) = false := by decide)
    (he : starEach (e :: es) X.env = (false, eval e X.env) :: starEach es X.env := by rfl) (hpl : (backTo pos (starEach es X.env)).any (·.1) = false := by rfl) : DE X (.Call (.Name x p) (e :: es) [] pos) (wCB r t) := by
  obtain ⟨r0, h1, h2⟩ := hc.ex
  exact pe_le (pe_callTy h1 hg hm hv ha hn hdb he hpl) fun _ _ _ h => up_call h2 h
theorem dall1 {K : Kz} {w : Wd} {H : Hp} {xs : List V} {d : PV} (n : DnAll K w H xs [d]) : ∃ v, xs = [v] ∧ Dn K w H v d := by
  cases n with
  | cons h r => cases r; exact ⟨_, rfl, h⟩
theorem dall2 {K : Kz} {w : Wd} {H : Hp} {xs : List V} {d e : PV} (n : DnAll K w H xs [d, e]) : ∃ v u, xs = [v, u] ∧ Dn K w H v d ∧ Dn K w H u e := by
  cases n with
  | cons h r =>
    obtain ⟨u, rfl, h2⟩ := dall1 r
    exact ⟨_, u, rfl, h, h2⟩
/-- len -/
def cLen : RcD := fun ds w Q => match ds with
  | [x] => match vw w x with
    | .lst es => Q (.int es.length) w
    | .tup es => Q (.int es.length) w
    | .scr es => Q (.int es.length) w
    | .str z => z.length ≤ sizeLine ∧ Q (.int z.length) w
    | _ => False
  | _ => False
theorem ca_len : CaD X (.builtin "len") cLen := by
  refine ⟨_, call_len_seq.or call_len_str, fun Z xs H ds w Q' Q k n h kq => ?_⟩
  unfold cLen at h
  split at h
  · obtain ⟨v, rfl, n1⟩ := dall1 n
    split at h
    · rename_i e
      obtain ⟨p, ys, rfl, hh, hn⟩ := vwL k n1 e
      exact .inl ⟨p, ys, rfl, .inl (SqL.of hh), by rw [hn.length]; exact kq _ _ (post_same k (.int _) h)⟩
    · rename_i e
      obtain ⟨p, ys, rfl, hh, hn⟩ := vwT n1 e
      exact .inl ⟨p, ys, rfl, .inr hh.sq, by rw [hn.length]; exact kq _ _ (post_same k (.int _) h)⟩
    · rename_i e
      obtain ⟨p, ys, rfl, hh, hn⟩ := vwZ n1 e
      exact .inl ⟨p, ys, rfl, .inl hh.sq, by rw [hn.length]; exact kq _ _ (post_same k (.int _) h)⟩
    · rename_i e
      cases vwS n1 e
      exact .inr ⟨_, rfl, h.1, kq _ _ (post_same k (.int _) h.2)⟩
    · exact h.elim
  · exact h.elim
/-- abs, max and min of two, int, ord -/
def cAbs : RcD := fun ds w Q => match ds with
  | [.int i] => Q (.int (if i < 0 then -i else i)) w
  | _ => False
theorem ca_abs : CaD X (.builtin "abs") cAbs := by
  refine ⟨_, call_abs, fun Z xs H ds w Q' Q k n h kq => ?_⟩
  unfold cAbs at h
  split at h
  · obtain ⟨v, rfl, n1⟩ := dall1 n
    cases n1
    exact ⟨_, rfl, kq _ _ (post_same k (.int _) h)⟩
  · exact h.elim
def cMax2 : RcD := fun ds w Q => match ds with
  | [.int i, .int j] => Q (.int (if j > i then j else i)) w
  | _ => False
theorem ca_max2 (hc : X.calm = true) : CaD X (.builtin "max") cMax2 := by
  refine ⟨_, call_max2 hc, fun Z xs H ds w Q' Q k n h kq => ?_⟩
  unfold cMax2 at h
  split at h
  · obtain ⟨v, u, rfl, n1, n2⟩ := dall2 n
    cases n1; cases n2
    exact ⟨_, _, rfl, kq _ _ (post_same k (.int _) h)⟩
  · exact h.elim
def cMin2 : RcD := fun ds w Q => match ds with
  | [.int i, .int j] => Q (.int (if j < i then j else i)) w
  | _ => False
theorem ca_min2 (hc : X.calm = true) : CaD X (.builtin "min") cMin2 := by
  refine ⟨_, call_min2 hc, fun Z xs H ds w Q' Q k n h kq => ?_⟩
  unfold cMin2 at h
  split at h
  · obtain ⟨v, u, rfl, n1, n2⟩ := dall2 n
    cases n1; cases n2
    exact ⟨_, _, rfl, kq _ _ (post_same k (.int _) h)⟩
  · exact h.elim
def cInt : RcD := fun ds w Q => match ds with
  | [.int i] => Q (.int i) w
  | [.bl b] => Q (.int (if b then 1 else 0)) w
  | _ => False
theorem ca_int : CaD X (.type "int") cInt := by
  refine ⟨_, call_int1, fun Z xs H ds w Q' Q k n h kq => ?_⟩
  unfold cInt at h
  split at h
  · obtain ⟨v, rfl, n1⟩ := dall1 n
    cases n1
    exact .inl ⟨_, rfl, kq _ _ (post_same k (.int _) h)⟩
  · obtain ⟨v, rfl, n1⟩ := dall1 n
    cases n1
    exact .inr ⟨_, rfl, kq _ _ (post_same k (.int _) h)⟩
  · exact h.elim
def cOrd : RcD := fun ds w Q => match ds with
  | [.str z] => z.length = 1 ∧ Q (.int (z.cps.getD 0 0 : Nat)) w
  | _ => False
theorem ca_ord : CaD X (.builtin "ord") cOrd := by
  refine ⟨_, call_ord, fun Z xs H ds w Q' Q k n h kq => ?_⟩
  unfold cOrd at h
  split at h
  · obtain ⟨v, rfl, n1⟩ := dall1 n
    cases n1
    exact ⟨_, rfl, h.1, kq _ _ (post_same k (.int _) h.2)⟩
  · exact h.elim
/-- list and tuple of a list or tuple -/
def seqOf (w : Wd) (d : PV) : Option (List PV) := match vw w d with
  | .lst es => some es
  | .tup es => some es
  | .scr es => some es
  | _ => none
def cList : RcD := fun ds w Q => match ds with
  | [x] => match seqOf w x with
    | some es => Q (.lst es) w
    | none => False
  | _ => False
def cTuple : RcD := fun ds w Q => match ds with
  | [x] => match seqOf w x with
    | some es => Q (.tup es) w
    | none => False
  | _ => False
theorem seqOf_sq {K : Kz} {w : Wd} {H : Hp} {v : V} {d : PV} {es : List PV} (k : Wk K w H) (n : Dn K w H v d) (h : seqOf w d = some es) : ∃ a xs, v = .ref a ∧ (SqL K.K.F H a xs ∨ (Tp K w H a xs ∧ d = .tup es)) ∧ DnAll K w H xs es := by
  unfold seqOf at h
  split at h
  · rename_i e; cases h
    obtain ⟨p, ys, rfl, hh, hn⟩ := vwL k n e
    exact ⟨p, ys, rfl, .inl (SqL.of hh), hn⟩
  · rename_i e; cases h
    obtain ⟨p, ys, rfl, hh, hn⟩ := vwT n e
    refine ⟨p, ys, rfl, .inr ⟨hh, ?_⟩, hn⟩
    cases d <;> simp [vw] at e
    · rw [e]
    · split at e <;> cases e
  · rename_i e; cases h
    obtain ⟨p, ys, rfl, hh, hn⟩ := vwZ n e
    exact ⟨p, ys, rfl, .inl hh.sq, hn⟩
  · cases h
theorem ca_list : CaD X (.type "list") cList := by
  refine ⟨_, call_list_of, fun Z xs H ds w Q' Q k n h kq => ?_⟩
  unfold cList at h
  split at h
  · obtain ⟨v, rfl, n1⟩ := dall1 n
    split at h
    · rename_i e
      obtain ⟨p, ys, rfl, hh, hn⟩ := seqOf_sq k n1 e
      exact ⟨p, ys, rfl, hh.imp id fun z => z.1.sq, fun l hl => kq _ _ (post_lst k hl hn h)⟩
    · exact h.elim
  · exact h.elim
theorem ca_tuple : CaD X (.type "tuple") cTuple := by
  refine ⟨_, call_tuple_of, fun Z xs H ds w Q' Q k n h kq => ?_⟩
  unfold cTuple at h
  split at h
  · obtain ⟨v, rfl, n1⟩ := dall1 n
    split at h
    · rename_i e
      obtain ⟨p, ys, rfl, hh, hn⟩ := seqOf_sq k n1 e
      refine ⟨p, ys, rfl, ?_⟩
      rcases hh with hh | ⟨hh, _⟩
      · exact .inl ⟨hh, fun l hl => kq _ _ (post_tup k hl hn h)⟩
      · exact .inr ⟨hh.sq, kq _ _ (post_same k (.tup hh hn) h)⟩
    · exact h.elim
  · exact h.elim
/-- all, any of a list of truths -/
def blsOf : List PV → Option (List Bool)
  | [] => some []
  | .bl b :: r => (blsOf r).map (b :: ·)
  | _ => none
theorem blsOf_dn {K : Kz} {w : Wd} {H : Hp} : ∀ {es : List PV} {bs : List Bool} {xs : List V}, blsOf es = some bs → DnAll K w H xs es → xs = bs.map V.bl
  | [], _, _, h, n => by cases h; cases n; rfl
  | .bl b :: r, bs, _, h, n => by
    cases n with
    | cons h1 h2 =>
      cases h1
      cases e : blsOf r with
      | none => simp [blsOf, e] at h
      | some cs =>
        have h' : b :: cs = bs := by simpa [blsOf, e] using h
        subst h'
        rw [blsOf_dn e h2]; rfl
  | .non :: _, _, _, h, _ => by simp [blsOf] at h
  | .int _ :: _, _, _, h, _ => by simp [blsOf] at h
  | .str _ :: _, _, _, h, _ => by simp [blsOf] at h
  | .tup _ :: _, _, _, h, _ => by simp [blsOf] at h
  | .lst _ :: _, _, _, h, _ => by simp [blsOf] at h
  | .scr _ :: _, _, _, h, _ => by simp [blsOf] at h
  | .ref _ :: _, _, _, h, _ => by simp [blsOf] at h
  | .ty _ :: _, _, _, h, _ => by simp [blsOf] at h
def cBls (f : List Bool → Bool) : RcD := fun ds w Q => match ds with
  | [.lst es] => ∃ bs, blsOf es = some bs ∧ Q (.bl (f bs)) w
  | _ => False
def cAll : RcD := cBls (·.all id)
def cAny : RcD := cBls (·.any id)
theorem ca_all (hc : X.calm = true) : CaD X (.builtin "all") cAll := by
  refine ⟨_, cr_all hc, fun Z xs H ds w Q' Q k n h kq => ?_⟩
  unfold cAll cBls at h
  split at h
  · obtain ⟨v, rfl, n1⟩ := dall1 n
    cases n1 with
    | lst hl hn =>
      obtain ⟨bs, hb, q⟩ := h
      have e := blsOf_dn hb hn
      subst e
      exact ⟨_, bs, rfl, hl.sq, kq _ _ (post_same k (.bl _) q)⟩
  · exact h.elim
theorem ca_any (hc : X.calm = true) : CaD X (.builtin "any") cAny := by
  refine ⟨_, cr_any hc, fun Z xs H ds w Q' Q k n h kq => ?_⟩
  unfold cAny cBls at h
  split at h
  · obtain ⟨v, rfl, n1⟩ := dall1 n
    cases n1 with
    | lst hl hn =>
      obtain ⟨bs, hb, q⟩ := h
      have e := blsOf_dn hb hn
      subst e
      exact ⟨_, bs, rfl, hl.sq, kq _ _ (post_same k (.bl _) q)⟩
  · exact h.elim
/-- isinstance -/
def tyName (w : Wd) : PV → Option String
  | .non => some "NoneType"
  | .bl _ => some "bool"
  | .int _ => some "int"
  | .str _ => some "str"
  | .tup _ => some "tuple"
  | .lst _ => some "list"
  | .scr _ => some "list"
  | .ref a => match w a with
    | some (.lst _) => some "list"
    | some (.dct _) => some "dict"
    | _ => none
  | .ty _ => none
def subTy (t c : String) : Bool := t == c || (t == "bool" && c == "int")
def knownC (c : String) : Bool := ["int", "bool", "str", "tuple", "list", "dict"].contains c
theorem tyName_x {K : Kz} {w : Wd} {H : Hp} {v : V} {d : PV} {t : String} (k : Wk K w H) (n : Dn K w H v d) (h : tyName w d = some t) : TyX K.K.F H v (.type t) ∧ ["NoneType", "bool", "int", "str", "tuple", "list", "dict"].contains t = true := by
  cases n with
  | non => cases h; exact ⟨.base .non, by decide⟩
  | bl b => cases h; exact ⟨.base (.bl b), by decide⟩
  | int i => cases h; exact ⟨.base (.int i), by decide⟩
  | str x => cases h; exact ⟨.base (.str x), by decide⟩
  | ty n => cases h
  | tup h1 _ =>
    cases h
    refine ⟨?_, by decide⟩
    rcases h1 with ⟨_, _, h1⟩ | ⟨o, its, n, hk, hc, _⟩
    · exact .base (.tup h1)
    · exact .kTuple hk hc
  | lst h1 _ => cases h; exact ⟨.base (.lst h1.2.2), by decide⟩
  | scr h1 _ =>
    cases h
    refine ⟨?_, by decide⟩
    rcases h1 with ⟨_, _, h2 | ⟨o, h2⟩⟩ | ⟨o, its, n, hk, hc, _⟩
    · exact .base (.lst h2)
    · exact .base (.frz h2)
    · exact .kList hk hc
  | ref a =>
    simp only [tyName] at h
    split at h
    · rename_i e; cases h
      cases k.at_ a _ e with
      | lst h1 _ => exact ⟨.base (.lst h1), by decide⟩
    · rename_i e; cases h
      cases k.at_ a _ e with
      | dct h1 _ => exact ⟨.base (.dK h1), by decide⟩
    · cases h
theorem kit_known {K : Frag} {t c : String} (ht : ["NoneType", "bool", "int", "str", "tuple", "list", "dict"].contains t = true) (hc : knownC c = true) : PySem.W.kitOne K (.type t) (.type c) = some (subTy t c) := by
  refine kit_ty ?_
  have h1 : ∀ t ∈ ["NoneType", "bool", "int", "str", "tuple", "list", "dict"], ∀ c ∈ ["int", "bool", "str", "tuple", "list", "dict"], kitB t c = some (subTy t c) := by decide +kernel
  exact h1 t (by simpa using ht) c (by simpa [knownC] using hc)
def tysOf : List PV → Option (List String)
  | [] => some []
  | .ty c :: r => (tysOf r).map (c :: ·)
  | _ => none
def cIsi : RcD := fun ds w Q => match ds with
  | [x, .ty c] => ∃ t, tyName w x = some t ∧ knownC c = true ∧ Q (.bl (subTy t c)) w
  | [x, .tup cs] => ∃ t us, tyName w x = some t ∧ tysOf cs = some us ∧ us.all knownC = true ∧ Q (.bl (us.any (subTy t))) w
  | _ => False
theorem tysOf_dn {K : Kz} {w : Wd} {H : Hp} : ∀ {es : List PV} {bs : List String} {xs : List V}, tysOf es = some bs → DnAll K w H xs es → Paired ClsV xs (bs.map Value.type)
  | [], _, _, h, n => by cases h; cases n; exact .nil
  | .ty b :: r, bs, _, h, n => by
    cases n with
    | cons h1 h2 =>
      cases h1
      cases e : tysOf r with
      | none => simp [tysOf, e] at h
      | some cs =>
        have h' : b :: cs = bs := by simpa [tysOf, e] using h
        subst h'
        exact .cons (.ty b) (tysOf_dn e h2)
  | .non :: _, _, _, h, _ => by simp [tysOf] at h
  | .int _ :: _, _, _, h, _ => by simp [tysOf] at h
  | .str _ :: _, _, _, h, _ => by simp [tysOf] at h
  | .tup _ :: _, _, _, h, _ => by simp [tysOf] at h
  | .lst _ :: _, _, _, h, _ => by simp [tysOf] at h
  | .scr _ :: _, _, _, h, _ => by simp [tysOf] at h
  | .ref _ :: _, _, _, h, _ => by simp [tysOf] at h
  | .bl _ :: _, _, _, h, _ => by simp [tysOf] at h
theorem kitAny_known {K : Frag} {t : String} (ht : ["NoneType", "bool", "int", "str", "tuple", "list", "dict"].contains t = true) : ∀ {us : List String}, us.all knownC = true → PySem.W.kitAny K (.type t) (us.map Value.type) = some (us.any (subTy t))
  | [], _ => rfl
  | c :: r, h => by
    simp only [List.all_cons, Bool.and_eq_true] at h
    refine kitAny_cons (b := subTy t c) (kit_known ht h.1) (fun z => ?_) fun z => ?_
    · rw [List.any_cons, z, Bool.false_or]; exact kitAny_known ht h.2
    · rw [List.any_cons, z, Bool.true_or]
theorem ca_isi : CaD X (.builtin "isinstance") cIsi := by
  refine ⟨_, call_isi.or (call_isiT.or call_isiK), fun Z xs H ds w Q' Q k n h kq => ?_⟩
  unfold cIsi at h
  split at h
  · obtain ⟨v, u, rfl, n1, n2⟩ := dall2 n
    cases n2
    obtain ⟨t, ht, hc, q⟩ := h
    obtain ⟨h1, h2⟩ := tyName_x k n1 ht
    exact .inl ⟨v, _, _, _, _, rfl, .ty _, h1, kit_known h2 hc, kq _ _ (post_same k (.bl _) q)⟩
  · obtain ⟨v, u, rfl, n1, n2⟩ := dall2 n
    obtain ⟨t, us, ht, hu, hc, q⟩ := h
    obtain ⟨h1, h2⟩ := tyName_x k n1 ht
    cases n2 with
    | tup hp hn =>
      rcases hp with ⟨_, _, hp⟩ | hp
      · exact .inr (.inl ⟨v, _, _, _, _, _, rfl, hp, tysOf_dn hu hn, h1, kitAny_known h2 hc, kq _ _ (post_same k (.bl _) q)⟩)
      · obtain ⟨⟨oc, od, dt, sl⟩, its, m, hk, hcl, hd, _, hv⟩ := hp
        simp only at hcl hd
        subst hcl hd
        have z := ClsV.all (tysOf_dn hu hn) hv
        refine .inr (.inr ⟨v, _, od, us.map Value.type, m, sl, _, _, rfl, ?_, h1, kitAny_known h2 hc, kq _ _ (post_same k (.bl _) q)⟩)
        rw [← z]; simpa using hk
  · exact h.elim
end
end Pd

/-! calls of defs, statements, loops, comprehensions -/
namespace Pd
open PySem L2

/-! ### defs -/
abbrev PSp := List PV → Wd → WQ → Prop
def upSp (K : Fw) (p : PSp) : Sp := fun vs H Q _ => ∃ Z ds w Q', Wk ⟨K, Z⟩ w H ∧ DnAll ⟨K, Z⟩ w H vs ds ∧ p ds w Q' ∧ ∀ v H', Post ⟨K, Z⟩ w H Q' v H' → Q v H'
/-- the def of that name keeps a promise of data -/
structure FD (P : Program) (w : World) (K : Frag) (mg : Str → Option Value) (base : Heap) (x : Str) (k : Nat) (p : PSp) : Prop where
  ex : ∃ f fd ps, mg x = some (.ref f) ∧ PySem.W.keepIn K (.ref f) = true ∧ Binds K fd ps [] ∧ FnOk P w K mg base CX0 k f fd ps (upSp ⟨P, w, K⟩ p)
theorem FD.mono {P : Program} {w : World} {K : Frag} {mg : Str → Option Value} {base : Heap} {x : Str} {j k : Nat} {p : PSp} (F : FD P w K mg base x j p) (h : j ≤ k) : FD P w K mg base x k p := by
  obtain ⟨f, fd, ps, a, b, c, d⟩ := F.ex
  exact ⟨f, fd, ps, a, b, c, d.mono h⟩
theorem FD.imp {P : Program} {w : World} {K : Frag} {mg : Str → Option Value} {base : Heap} {x : Str} {k : Nat} {p p' : PSp} (F : FD P w K mg base x k p) (h : ∀ ds w Q, p' ds w Q → p ds w Q) : FD P w K mg base x k p' := by
  obtain ⟨f, fd, ps, a, b, c, d⟩ := F.ex
  exact ⟨f, fd, ps, a, b, c, d.imp fun vs H Q E ⟨Z, ds, w, Q', h2, h3, h4, h5⟩ => ⟨Z, ds, w, Q', h2, h3, h _ _ _ h4, h5⟩⟩
def wCall (p : PSp) (t : WA) : WE := fun ρ w Q => t ρ w fun ds w1 => p ds w1 Q
section
variable {X : Cx} {x : Str} {k : Nat} {pr : PSp} {p pos : Pos} {e : Expr} {es : List Expr} {t : WA}
theorem call_up {K : Fw} {pr : PSp} {t : WA} {σ : St} {H : Hp} {Q : VK} {E : XK} (h : upE K (wCall pr t) σ H Q) : tCall (upSp K pr) [] E (upA K t) σ H Q := by
  obtain ⟨Z, ρ, w, Q', r, h, kk⟩ := h
  refine upA1 r h fun vs H1 ds w1 e1 r1 n1 h1 => ?_
  exact ⟨Z, ds, w1, Q', r1.wk, by rw [List.append_nil]; exact n1, h1, fun v H' p => kk v H' (post_trans e1 p)⟩
theorem de_call (F : FD X.prog X.w X.K X.mg X.base x k pr) (hr : Room k X.A) (hg : Gl X x) (ha : DA X (e :: es) t) (hdb : (x == ("__debug__" : Str)) = false := by decide)
    (he : starEach (e :: es) X.env = (false, eval e X.env) :: starEach es X.env := by rfl) (hpl : (backTo pos (starEach es X.env)).any (·.1) = false := by rfl) : DE X (.Call (.Name x p) (e :: es) [] pos) (wCall pr t) := by
  obtain ⟨f, fd, ps, a, b, c, d⟩ := F.ex
  exact pe_le (pe_call d hr hg a b c .nil pass0 ha hdb he hpl) fun _ _ _ h => call_up h
theorem de_call0 (F : FD X.prog X.w X.K X.mg X.base x k pr) (hr : Room k X.A) (hg : Gl X x) (hdb : (x == ("__debug__" : Str)) = false := by decide) : DE X (.Call (.Name x p) [] [] pos) (wCall pr wNil) := by
  obtain ⟨f, fd, ps, a, b, c, d⟩ := F.ex
  refine pe_le (pe_call0 d hr hg a b c .nil pass0 hdb) fun σ H Q ⟨Z, ρ, w, Q', r, h, kk⟩ => ?_
  exact ⟨Z, [], w, Q', r.wk, .nil, h, kk⟩
end
/-- slots at the start -/
def begin0 (N : List Str) (ds : List PV) : Sl := ds.map some ++ List.replicate (N.length - ds.length) none
theorem begin_rep {K : Kz} {w : Wd} {H : Hp} {N : List Str} {vs : List V} {ds : List PV} (k : Wk K w H) (n : DnAll K w H vs ds) : Rep K (begin0 N ds) w (L2.start N vs) H := by
  unfold begin0 L2.start
  refine ⟨by simp [n.length], fun i d h => ?_, k⟩
  by_cases hi : i < ds.length
  · rw [List.getElem?_append_left (by simpa using hi), List.getElem?_map] at h
    rw [List.getElem?_append_left (by rw [List.length_map, n.length]; exact hi), List.getElem?_map]
    cases e : ds[i]? with
    | none => rw [e] at h; cases h
    | some d' =>
      rw [e] at h
      cases h
      obtain ⟨v, h1, h2⟩ := n.get e
      exact ⟨v, by rw [h1]; rfl, h2⟩
  · rw [List.getElem?_append_right (by simpa using hi), List.getElem?_replicate] at h
    split at h <;> cases h
section
variable {P : Program} {w : World} {K : Frag} {mg : Str → Option Value} {base : Heap}
/-- THE RULE for a def -/
theorem fd_mk {x qual : Str} {st : Stmt} {f : Addr} {fd : FuncData} {N ps : List Str} {k : Nat} {p : PSp} (F : Fun K x qual st f fd) (hm : mg x = some (.ref f)) (hb : Binds K fd ps []) (S : FnScope N ps (defScope st)) (len : ∀ ds w Q, p ds w Q → ds.length = ps.length)
    (body : ∀ (cdv : Value) (A : Around) (outer : List Env) (s : Shared) (H : Hp) (E : XK), Room k (A.deeper (PyProof.Rows.envOfC qual (defScope st) s.heap.objs.size f cdv)) →
      ∃ t, DSs (cxOf CX0 P w K mg base N qual (defScope st) f cdv A outer s H E).nox (defBody st) t ∧ ∀ ds w' Q, p ds w' Q → t { nx := fun _ w2 => Q .non w2, rt := Q } (begin0 N ds) w') : FD P w K mg base x (k + 1) p := by
  refine ⟨f, fd, ps, hm, F.kp, hb, F.ok S (fun vs H Q E h => ?_) fun cdv A outer s H vs Q E hr h => ?_⟩
  · obtain ⟨Z, ds, w, Q', h1, h2, h3, _⟩ := h
    rw [h2.length]
    exact len _ _ _ h3
  · obtain ⟨Z, ds, w, Q', h1, h2, h3, h4⟩ := h
    obtain ⟨t, ht, hp⟩ := body cdv A outer s H E hr
    refine ⟨_, ht, Z, begin0 N ds, w, _, begin_rep h1 h2, hp ds w Q' h3, ⟨fun σ' H' ρ' w' e r q => ?_, fun v H' q => h4 v H' q, fun _ _ _ _ _ _ q => q.elim, fun _ _ _ _ _ _ q => q.elim⟩⟩
    exact h4 _ _ ⟨.non, w', e, r.wk, .non, q⟩
end

/-! ### statements -/
section
variable {X : Cx} {st : Stmt} {rest sa sb : List Stmt} {t u : WS} {c e : Expr} {te : WE} {tc : WT} {pos : Pos}
def wNext : WS := fun D ρ w => D.nx ρ w
def wSeq2 (t u : WS) : WS := fun D ρ w => t { D with nx := u D } ρ w
theorem ds_nil : DSs X [] wNext := pss_le pss_nil fun D σ H ⟨Z, ρ, w, E, r, h, k⟩ => k.nx σ H ρ w (Ext.refl _ _) r h
theorem ds_cons (h1 : DS X st t) (h2 : DSs X rest u) : DSs X (st :: rest) (wSeq2 t u) :=
  pss_le (pss_cons h1 h2) fun D σ H ⟨Z, ρ, w, E, r, h, k⟩ => ⟨Z, ρ, w, { E with nx := u E }, r, h, ⟨fun σ' H' ρ' w' x r' q => ⟨Z, ρ', w', E, r', q, k.ext x⟩, k.rt, k.bk, k.ct⟩⟩
theorem ds_one (h1 : DS X st t) : DSs X [st] t := pss_one h1
theorem ds_pass : DS X (.Pass pos) wNext := ps_le ps_pass fun D σ H ⟨Z, ρ, w, E, r, h, k⟩ => k.nx σ H ρ w (Ext.refl _ _) r h
def wBreak : WS := fun D ρ w => D.bk ρ w
def wCont : WS := fun D ρ w => D.ct ρ w
theorem ds_break : DS X (.Break pos) wBreak := ps_le ps_break fun D σ H ⟨Z, ρ, w, E, r, h, k⟩ => k.bk σ H ρ w (Ext.refl _ _) r h
theorem ds_continue : DS X (.Continue pos) wCont := ps_le ps_continue fun D σ H ⟨Z, ρ, w, E, r, h, k⟩ => k.ct σ H ρ w (Ext.refl _ _) r h
def wDrop (te : WE) : WS := fun D ρ w => te ρ w fun _ w1 => D.nx ρ w1
theorem ds_expr (he : DE X e te) (hs : swapsWith e none pos.line X.env = pure false := by rfl) : DS X (.Expr e pos) (wDrop te) :=
  ps_le (ps_expr he hs) fun D σ H ⟨Z, ρ, w, E, r, h, k⟩ => up1 r h fun x H1 d w1 e1 r1 n h1 => k.nx σ H1 ρ w1 e1 r1 h1
def wRet (te : WE) : WS := fun D ρ w => te ρ w D.rt
theorem ds_ret (he : DE X e te) : DS X (.Return (some e) pos) (wRet te) :=
  ps_le (ps_ret he) fun D σ H ⟨Z, ρ, w, E, r, h, k⟩ => up1 r h fun x H1 d w1 e1 r1 n h1 => k.rt _ _ ⟨d, w1, e1, r1.wk, n, h1⟩
def wRetN : WS := fun D _ w => D.rt .non w
theorem ds_retN : DS X (.Return none pos) wRetN := ps_le ps_retN fun D σ H ⟨Z, ρ, w, E, r, h, k⟩ => k.rt _ _ ⟨.non, w, Ext.refl _ _, r.wk, .non, h⟩
def wIf (c : WT) (t u : WS) : WS := fun D ρ w => c ρ w fun b w1 => if b = true then t D ρ w1 else u D ρ w1
theorem ds_if (hc : DT X c tc) (ha : DSs X sa t) (hb : DSs X sb u) : DS X (.If c sa sb pos) (wIf tc t u) :=
  ps_le (ps_if hc ha hb) fun D σ H ⟨Z, ρ, w, E, r, h, k⟩ => upT1 r h fun b H1 w1 e1 r1 h1 => by
    cases b with
    | true => exact iteT ⟨Z, ρ, w1, E, r1, by simpa using h1, k.ext e1⟩
    | false => exact iteF ⟨Z, ρ, w1, E, r1, by simpa using h1, k.ext e1⟩

/-! targets -/
abbrev WG := PV → Sl → Wd → (Sl → Wd → Prop) → Prop
def upG (K : Fw) (g : WG) : TG := fun v σ H Q => ∃ Z ρ w d Q', Rep ⟨K, Z⟩ ρ w σ H ∧ Dn ⟨K, Z⟩ w H v d ∧ g d ρ w Q' ∧ ∀ σ' H' ρ' w', Ext w H w' H' → Rep ⟨K, Z⟩ ρ' w' σ' H' → Q' ρ' w' → Q σ' H'
abbrev DG (X : Cx) (tg : Expr) (g : WG) : Prop := PG X tg (upG (fw X) g)
theorem pg_le {tg : Expr} {g g' : TG} (h : PG X tg g) (hl : ∀ v σ H Q, g' v σ H Q → g v σ H Q) : PG X tg g' := ⟨fun pins s σ H v u Q I r q => h.run pins s σ H v u Q I r (hl v σ H Q q)⟩
theorem pgs_le {ts : List Expr} {g g' : TGs} (h : PGs X ts g) (hl : ∀ v σ H Q, g' v σ H Q → g v σ H Q) : PGs X ts g' := ⟨fun pins s σ H v u Q I r q => h.run pins s σ H v u Q I r (hl v σ H Q q)⟩
def wName (i : Nat) : WG := fun d ρ w Q => Q (ρ.set i (some d)) w
theorem dg_name {i : Nat} {x : Str} (hN : X.N.Nodup) (hi : X.N[i]? = some x) (hx : Loc X.env.scope x) (hf : X.fn x = true ∨ X.env.scope.names.lookup x = some .local := by first | exact .inl rfl | exact .inr rfl | assumption) : DG X (.Name x pos) (wName i) :=
  pg_le (pg_name hN hi hx hf) fun v σ H Q ⟨Z, ρ, w, d, Q', r, n, h, k⟩ => k _ _ _ _ (Ext.refl _ _) (r.set n i) h
abbrev WGs := List PV → Sl → Wd → (Sl → Wd → Prop) → Prop
def upGs (K : Fw) (g : WGs) : TGs := fun vs σ H Q => ∃ Z ρ w ds Q', Rep ⟨K, Z⟩ ρ w σ H ∧ DnAll ⟨K, Z⟩ w H vs ds ∧ g ds ρ w Q' ∧ ∀ σ' H' ρ' w', Ext w H w' H' → Rep ⟨K, Z⟩ ρ' w' σ' H' → Q' ρ' w' → Q σ' H'
def wgNil : WGs := fun ds ρ w Q => match ds with
  | [] => Q ρ w
  | _ => False
def wgCons (g : WG) (gs : WGs) : WGs := fun ds ρ w Q => match ds with
  | d :: r => g d ρ w fun ρ' w' => gs r ρ' w' Q
  | _ => False
theorem dgs_nil : PGs X [] (upGs (fw X) wgNil) := pgs_le pgs_nil fun vs σ H Q ⟨Z, ρ, w, ds, Q', r, n, h, k⟩ => by
  cases n with
  | nil => exact ⟨rfl, k _ _ _ _ (Ext.refl _ _) r h⟩
  | cons _ _ => exact h.elim
theorem dgs_cons {tg : Expr} {es : List Expr} {g : WG} {gs : WGs} (h1 : DG X tg g) (h2 : PGs X es (upGs (fw X) gs)) (hs : (assignEach (tg :: es) X.env).map (·.2) = assign tg X.env :: (assignEach es X.env).map (·.2) := by rfl) : PGs X (tg :: es) (upGs (fw X) (wgCons g gs)) :=
  pgs_le (pgs_cons h1 h2 hs) fun vs σ H Q ⟨Z, ρ, w, ds, Q', r, n, h, k⟩ => by
    cases n with
    | nil => exact h.elim
    | cons n1 n2 =>
      refine ⟨_, _, rfl, Z, ρ, w, _, _, r, n1, h, fun σ1 H1 ρ1 w1 e1 r1 h1 => ?_⟩
      exact ⟨Z, ρ1, w1, _, _, r1, n2.ext e1, h1, fun σ2 H2 ρ2 w2 e2 r2 h2 => k _ _ _ _ (e1.trans e2) r2 h2⟩
def wgTup (n : Nat) (gs : WGs) : WG := fun d ρ w Q => match d with
  | .tup ds => ds.length = n ∧ gs ds ρ w Q
  | _ => False
theorem dg_tup {es : List Expr} {k : Nat} {gs : WGs} {n : Nat} (hc : X.calm = true) (h : PGs X es (upGs (fw X) gs))
    (hn : (assignEach es X.env).length = n := by rfl) (hst : (assignEach es X.env).findIdx? (·.1) = none := by rfl) : DG X (.Tuple es k pos) (wgTup n gs) :=
  pg_le (pg_tup hc h hn hst) fun v σ H Q ⟨Z, ρ, w, d, Q', r, n1, h, k⟩ => by
    cases n1 with
    | tup hp hn => exact ⟨_, _, rfl, hp.sq, by rw [hn.length]; exact h.1, Z, ρ, w, _, _, r, hn, h.2, k⟩
    | _ => exact h.elim
/-- target = value -/
def wAsg (te : WE) (g : WG) : WS := fun D ρ w => te ρ w fun x w1 => g x ρ w1 D.nx
theorem ds_asg {tg : Expr} {g : WG} (he : DE X e te) (hg : DG X tg g) (hs : swapsWithSole [tg] e pos.line X.env = pure false := by rfl) (hw : swappedStores [tg] e X.env = pure none := by rfl)
    (h1 : (assignEach [tg] X.env).map (·.2) = [assign tg X.env] := by rfl) : DS X (.Assign [tg] e pos) (wAsg te g) :=
  ps_le (ps_asg he hg hs hw h1) fun D σ H ⟨Z, ρ, w, E, r, h, k⟩ => up1 r h fun x H1 d w1 e1 r1 n h1 => ⟨Z, ρ, w1, d, _, r1, n, h1, fun σ' H' ρ' w' e2 r2 h2 => k.nx _ _ _ _ (e1.trans e2) r2 h2⟩
/-- xs[i] = v, xs a list that may change -/
def rSub (d o i : PV) (w2 : Wd) (Q : Wd → Prop) : Prop := match o, i with
  | .ref a, .int k => match w2 a with
    | some (.lst ds) => ∃ j, ixN ds.length k = some j ∧ Q (wset w2 a (.lst (ds.set j d)))
    | _ => False
  | _, _ => False
def wgSub (to ti : WE) : WG := fun d ρ w Q => to ρ w fun o w1 => ti ρ w1 fun i w2 => rSub d o i w2 fun w3 => Q ρ w3
theorem Ext.put {w : Wd} {H : Hp} {a : Addr} {m m' : MO} {o : HO} (h : w a = some m) : Ext w H (wset w a m') (upd H a o) := fun b u h1 h2 => by
  have q : b ≠ a := fun z => by rw [z, h] at h1; cases h1
  exact ⟨by rw [wset_ne q]; exact h1, by rw [upd_ne q]; exact h2⟩
theorem Wk.put {K : Kz} {w : Wd} {H : Hp} {a : Addr} {m m' : MO} {o : HO} (k : Wk K w H) (h : w a = some m) (new : MOk K (wset w a m') (upd H a o) a m') : Wk K (wset w a m') (upd H a o) := by
 refine ⟨fun b x hb => ?_, fun b z => ?_⟩
 rotate_left
 · obtain ⟨h1, u, h2⟩ := k.zin b z
   have q := (Ext.put (m' := m') (o := o) h) b u h1 h2
   exact ⟨q.1, u, q.2⟩
 · by_cases q : b = a
   · subst q
     rw [wset_same] at hb
     cases hb
     exact new
   · rw [wset_ne q] at hb
     have e : Ext w H (wset w a m') (upd H a o) := Ext.put h
     have hh : upd H a o b = H b := upd_ne q
     cases k.at_ b x hb with
     | lst h1 h2 => exact .lst (hh.trans h1) (h2.ext e)
     | dct h1 h2 => exact .dct (hh.trans h1) (h2.ext e)
     | dcp h1 h2 => exact .dcp (hh.trans h1) (KpOk.ext e h2)
     | ins h1 h2 => exact .ins (hh.trans h1) (h2.ext e)
theorem dg_sub {o i : Expr} {to ti : WE} (ho : DE X o to) (hi : DE X i ti)
    (ha : ∀ v, assign (.Subscript o i pos) X.env v = (do
      let ov ← holding [v] (eval o X.env)
      let iv ← holding [v, ov] (eval i X.env)
      standAt pos
      holding [v, ov, iv] (setItem ov iv v)
      release [v, ov, iv] []) := by intro _; rfl) : DG X (.Subscript o i pos) (wgSub to ti) :=
  pg_le (pg_sub ho hi set_list ha) fun v σ H Q ⟨Z, ρ, w, d, Q', r, n, h, k⟩ => up1 r h fun ov H1 od w1 e1 r1 n1 h1 => up1 r1 h1 fun iv H2 id' w2 e2 r2 n2 h2 => by
    unfold rSub at h2
    split at h2
    · split at h2
      · rename_i ds e
        obtain ⟨j, hj, q⟩ := h2
        cases n1
        cases n2
        cases r2.wk.at_ _ _ e with
        | @lst xs _ h3 h4 =>
          have ep : Ext w2 H2 (wset w2 _ (.lst (ds.set j d))) (upd H2 _ (.lst (xs.set j v))) := Ext.put e
          refine ⟨_, _, _, j, rfl, rfl, h3, by rw [h4.length]; exact hj, k _ _ _ _ (e1.trans (e2.trans ep)) (r2.ext ep ?_) q⟩
          exact r2.wk.put e (.lst upd_same ((DnAll.set ((n.ext e1).ext e2) j h4).ext ep))
      · exact h2.elim
    · exact h2.elim
end
end Pd

/-! what is walked, for, while, comprehensions, join -/
namespace Pd
open PySem L2

/-- more is hidden, all of it new -/
def Zx (K : Kz) (H : Hp) (Z' : Addr → Prop) : Prop := ∀ b, Z' b → K.Z b ∨ H b = none
mutual
theorem Dn.hide {K : Kz} {w : Wd} {H : Hp} {Z' : Addr → Prop} (z : Zx K H Z') : ∀ {v : V} {d : PV}, Dn K w H v d → Dn ⟨K.K, Z'⟩ w H v d
  | _, _, .non => .non
  | _, _, .bl b => .bl b
  | _, _, .int i => .int i
  | _, _, .str x => .str x
  | _, _, .ref a => .ref a
  | _, _, .ty n => .ty n
  | _, _, .tup h r => .tup (by
      rcases h with ⟨h1, h2, h3⟩ | h
      · exact .inl ⟨h1, fun q => (z _ q).elim h2 (fun e => by rw [h3] at e; cases e), h3⟩
      · exact .inr h) (DnAll.hide z r)
  | _, _, .lst h r => .lst ⟨h.1, fun q => (z _ q).elim h.2.1 (fun e => by rw [h.2.2] at e; cases e), h.2.2⟩ (DnAll.hide z r)
  | _, _, .scr h r => .scr (by
      rcases h with ⟨h1, h2, h3⟩ | h
      · refine .inl ⟨h1, fun q => (z _ q).elim h2 (fun e => ?_), h3⟩
        rcases h3 with h3 | ⟨o, h3⟩ <;> (rw [h3] at e; cases e)
      · exact .inr h) (DnAll.hide z r)
theorem DnAll.hide {K : Kz} {w : Wd} {H : Hp} {Z' : Addr → Prop} (z : Zx K H Z') : ∀ {vs : List V} {ds : List PV}, DnAll K w H vs ds → DnAll ⟨K.K, Z'⟩ w H vs ds
  | _, _, .nil => .nil
  | _, _, .cons h r => .cons (h.hide z) (DnAll.hide z r)
end
mutual
theorem Dn.less {K : Kz} {w : Wd} {H : Hp} {Z' : Addr → Prop} (z : ∀ b, Z' b → K.Z b) : ∀ {v : V} {d : PV}, Dn K w H v d → Dn ⟨K.K, Z'⟩ w H v d
  | _, _, .non => .non
  | _, _, .bl b => .bl b
  | _, _, .int i => .int i
  | _, _, .str x => .str x
  | _, _, .ref a => .ref a
  | _, _, .ty n => .ty n
  | _, _, .tup h r => .tup (by
      rcases h with ⟨h1, h2, h3⟩ | h
      · exact .inl ⟨h1, fun q => h2 (z _ q), h3⟩
      · exact .inr h) (DnAll.less z r)
  | _, _, .lst h r => .lst ⟨h.1, fun q => h.2.1 (z _ q), h.2.2⟩ (DnAll.less z r)
  | _, _, .scr h r => .scr (by
      rcases h with ⟨h1, h2, h3⟩ | h
      · exact .inl ⟨h1, fun q => h2 (z _ q), h3⟩
      · exact .inr h) (DnAll.less z r)
theorem DnAll.less {K : Kz} {w : Wd} {H : Hp} {Z' : Addr → Prop} (z : ∀ b, Z' b → K.Z b) : ∀ {vs : List V} {ds : List PV}, DnAll K w H vs ds → DnAll ⟨K.K, Z'⟩ w H vs ds
  | _, _, .nil => .nil
  | _, _, .cons h r => .cons (h.less z) (DnAll.less z r)
end
/-- the iterator yields these data, whatever is made meanwhile -/
structure ItD (K : Kz) (J : It) (w : Wd) (H : Hp) (ds : List PV) : Prop where
  go : ∀ (i : Nat) w' H', Ext w H w' H' → i < ds.length → J.go i H'
  yld : ∀ (i : Nat) w' H' x H'' Z', Ext w H w' H' → Zx K H Z' → Wk ⟨K.K, Z'⟩ w' H' → i < ds.length → J.yld i H' x H'' → ∃ d, ds[i]? = some d ∧ Ext w' H' w' H'' ∧ Wk ⟨K.K, Z'⟩ w' H'' ∧ Dn ⟨K.K, Z'⟩ w' H'' x d
  stop : ∀ w' H', Ext w H w' H' → J.stop ds.length H'
theorem itd_list {K : Kz} {w : Wd} {H : Hp} {a : Addr} {xs : List V} {ds : List PV} (h : ∀ w' H', Ext w H w' H' → SqL K.K.F H' a xs) (n : DnAll K w H xs ds) : ItD K (Itl K.K.F a) w H ds where
  go := fun i w' H' e hi => by
    obtain ⟨v, h1, _⟩ := n.get (List.getElem?_eq_getElem hi)
    exact ⟨xs, v, h _ _ e, h1⟩
  yld := fun i w' H' x H'' Z' e z k hi ⟨h1, h2⟩ => by
    subst h1
    obtain ⟨d, h3, h4⟩ := n.get' (h2 xs (h _ _ e))
    exact ⟨d, h3, Ext.refl _ _, k, (h4.hide z).ext e⟩
  stop := fun w' H' e => ⟨xs, h _ _ e, by rw [n.length]; exact Nat.le_refl _⟩
theorem itd_tup {K : Kz} {w : Wd} {H : Hp} {a : Addr} {xs : List V} {ds : List PV} (h : Tp K w H a xs) (n : DnAll K w H xs ds) : ItD K (Itt K.K.F a) w H ds where
  go := fun i w' H' e hi => by
    obtain ⟨v, h1, _⟩ := n.get (List.getElem?_eq_getElem hi)
    exact ⟨xs, v, (h.ext e).sq, h1⟩
  yld := fun i w' H' x H'' Z' e z k hi ⟨h1, h2⟩ => by
    subst h1
    obtain ⟨d, h3, h4⟩ := n.get' (h2 xs (h.ext e).sq)
    exact ⟨d, h3, Ext.refl _ _, k, (h4.hide z).ext e⟩
  stop := fun w' H' e => ⟨xs, (h.ext e).sq, by rw [n.length]; exact Nat.le_refl _⟩
/-- a text's signs -/
def signs (z : Str) : List PV := z.cps.toList.map fun c => .str ⟨#[c]⟩
theorem signs_length (z : Str) : (signs z).length = z.cps.size := by simp [signs]
theorem itd_str {K : Kz} {w : Wd} {H : Hp} (z : Str) : ItD K (Its z) w H (signs z) where
  go := fun i w' H' e hi => by rw [signs_length] at hi; exact hi
  yld := fun i w' H' x H'' Z' e z' k hi ⟨h1, c, h2, h3⟩ => by
    subst h1; subst h3
    refine ⟨.str ⟨#[c]⟩, ?_, Ext.refl _ _, k, .str _⟩
    simp only [signs, List.getElem?_map, Array.getElem?_toList, h2, Option.map_some]
  stop := fun w' H' e => by rw [signs_length]; exact Nat.le_refl _
/-- lo, lo + 1, .. -/
def nums (lo : Int) (n : Nat) : List PV := (List.range n).map fun (i : Nat) => .int (lo + i)
theorem nums_length (lo : Int) (n : Nat) : (nums lo n).length = n := by simp [nums]
theorem itd_range {K : Kz} {w : Wd} {H : Hp} (lo : Int) (n : Nat) : ItD K (Itr lo n) w H (nums lo n) where
  go := fun i w' H' e hi => by rw [nums_length] at hi; exact hi
  yld := fun i w' H' x H'' Z' e z' k hi ⟨h1, h2⟩ => by
    subst h1; subst h2
    rw [nums_length] at hi
    refine ⟨.int (lo + i), ?_, Ext.refl _ _, k, .int _⟩
    simp [nums, List.getElem?_map, List.getElem?_range hi]
  stop := fun w' H' e => by rw [nums_length]; exact Nat.le_refl _
abbrev WI := Sl → Wd → (List PV → Wd → Prop) → Prop
def upI (K : Fw) (t : WI) : TI := fun σ H R => ∃ Z ρ w Q', Rep ⟨K, Z⟩ ρ w σ H ∧ t ρ w Q' ∧ ∀ J H' ds w', Ext w H w' H' → Wk ⟨K, Z⟩ w' H' → ItD ⟨K, Z⟩ J w' H' ds → Q' ds w' → R J H'
abbrev DI (X : Cx) (tg it : Expr) (t : WI) : Prop := PI X tg it (upI (fw X) t)
theorem pi_le {X : Cx} {tg it : Expr} {t t' : TI} (h : PI X tg it t) (hl : ∀ σ H R, t' σ H R → t σ H R) : PI X tg it t' := ⟨fun pins s σ H R I q => h.run pins s σ H R I (hl σ H R q)⟩
def onSeq (x : PV) (k : List PV → Prop) : Prop := match x with
  | .lst ds => k ds
  | .tup ds => k ds
  | .scr ds => k ds
  | .str z => k (signs z)
  | _ => False
def wSeq (te : WE) : WI := fun ρ w Q => te ρ w fun x w1 => onSeq x fun ds => Q ds w1
section
variable {X : Cx} {tg e it c : Expr} {te : WE} {pos p : Pos} {ta : WA}
/-- a value that is walked -/
theorem pi_val {t : TE} (he : PE X e t) : PI X tg e (fun σ H R => t σ H fun x H1 => (∃ a xs, x = .ref a ∧ SqL X.K H1 a xs ∧ R (Itl X.K a) H1) ∨ (∃ a xs, x = .ref a ∧ SqT X.K H1 a xs ∧ R (Itt X.K a) H1) ∨ (∃ z, x = .str z ∧ R (Its z) H1)) := by
  refine ⟨fun pins s σ H R I h => ?_⟩
  refine thn (he.run pins s σ H _ I h) fun v s1 ⟨x, H1, I1, r1, q1⟩ => ?_
  rcases q1 with ⟨a, xs, rfl, hq, q⟩ | ⟨a, xs, rfl, hq, q⟩ | ⟨z, rfl, q⟩
  · cases r1
    obtain ⟨its, rv, pl, _⟩ := I1.list hq
    refine wpAny_pyIter_list pl.isList ?_
    exact pi_one (tk := s1.toks) I1 _ (turn_list a _) ⟨_, Heap.get?_push_size _ rfl, rfl, rfl⟩ q
  · cases r1
    obtain ⟨its, rv, pl, _⟩ := I1.tuple hq
    refine wpAny_pyIter_tuple (show s1.heap.IsTuple a its.toArray from pl) ?_
    exact pi_one (tk := s1.toks) I1 _ (turn_tuple a _) ⟨_, Heap.get?_push_size _ rfl, rfl, rfl⟩ q
  · obtain ⟨t, rfl⟩ := r1
    cases ha : z.cps.all (· < 128)
    · exact wpAny_pyIter_wide ha (pi_one (tk := s1.toks) I1 _ (turn_str _ z t "str_iterator" (.inr rfl)) ⟨_, Heap.get?_push_size _ rfl, rfl, rfl⟩ q)
    · exact wpAny_pyIter_ascii ha (pi_one (tk := s1.toks) I1 _ (turn_str _ z t "str_ascii_iterator" (.inl rfl)) ⟨_, Heap.get?_push_size _ rfl, rfl, rfl⟩ q)
theorem di_val (he : DE X e te) : DI X tg e (wSeq te) :=
  pi_le (pi_val he) fun σ H R ⟨Z, ρ, w, Q', r, h, k⟩ => up1 r h fun x H1 d w1 e1 r1 n h1 => by
    cases n with
    | tup hp hn => exact .inr (.inl ⟨_, _, rfl, hp.sq, k _ _ _ _ e1 r1.wk (itd_tup hp hn) h1⟩)
    | lst hp hn => exact .inl ⟨_, _, rfl, hp.sq, k _ _ _ _ e1 r1.wk (itd_list (fun _ _ e => (hp.ext e).sq) hn) h1⟩
    | scr hp hn => exact .inl ⟨_, _, rfl, hp.sq, k _ _ _ _ e1 r1.wk (itd_list (fun _ _ e => (hp.ext e).sq) hn) h1⟩
    | str z => exact .inr (.inr ⟨z, rfl, k _ _ _ _ e1 r1.wk (itd_str z) h1⟩)
    | _ => exact h1.elim
def rRng1 (ds : List PV) (k : List PV → Prop) : Prop := match ds with
  | [.int j] => (-(2 ^ 62) ≤ j ∧ j < 2 ^ 62) ∧ k (nums 0 j.toNat)
  | _ => False
def wRng1 (ta : WA) : WI := fun ρ w Q => ta ρ w fun ds w1 => rRng1 ds fun xs => Q xs w1
def rRng2 (ds : List PV) (k : List PV → Prop) : Prop := match ds with
  | [.int i, .int j] => (-(2 ^ 62) ≤ i ∧ i < 2 ^ 62 ∧ -(2 ^ 62) ≤ j ∧ j < 2 ^ 62) ∧ k (nums i (j - i).toNat)
  | _ => False
def wRng2 (ta : WA) : WI := fun ρ w Q => ta ρ w fun ds w1 => rRng2 ds fun xs => Q xs w1
theorem di_range1 {a : Expr} (hg : Gl X "range") (hm : X.mg "range" = none) (ha : DA X [a] ta) (hs : starEach [a] X.env = [(false, eval a X.env)] := by rfl) : DI X tg (.Call (.Name "range" p) [a] [] pos) (wRng1 ta) :=
  pi_le (pi_range1 hg hm ha hs) fun σ H R ⟨Z, ρ, w, Q', r, h, k⟩ => upA1 r h fun vs H1 ds w1 e1 r1 n h1 => by
    unfold rRng1 at h1
    split at h1
    · obtain ⟨v, rfl, n1⟩ := dall1 n
      cases n1
      exact ⟨_, rfl, h1.1.1, h1.1.2, k _ _ _ _ e1 r1.wk (itd_range 0 _) h1.2⟩
    · exact h1.elim
theorem di_range2 {a b : Expr} (hg : Gl X "range") (hm : X.mg "range" = none) (ha : DA X [a, b] ta) (hs : starEach [a, b] X.env = [(false, eval a X.env), (false, eval b X.env)] := by rfl) (hs2 : starEach [b] X.env = [(false, eval b X.env)] := by rfl) :
    DI X tg (.Call (.Name "range" p) [a, b] [] pos) (wRng2 ta) :=
  pi_le (pi_range2 hg hm ha hs hs2) fun σ H R ⟨Z, ρ, w, Q', r, h, k⟩ => upA1 r h fun vs H1 ds w1 e1 r1 n h1 => by
    unfold rRng2 at h1
    split at h1
    · obtain ⟨v, u, rfl, n1, n2⟩ := dall2 n
      cases n1; cases n2
      exact ⟨_, _, rfl, h1.1, k _ _ _ _ e1 r1.wk (itd_range _ _) h1.2⟩
    · exact h1.elim

/-! ### for -/
def forD (g : WG) (tb : WS) (E : WEnds) : List PV → Sl → Wd → Prop
  | [], ρ, w => E.nx ρ w
  | d :: r, ρ, w => g d ρ w fun ρ1 w1 => tb { nx := forD g tb E r, rt := E.rt, bk := E.nx, ct := forD g tb E r } ρ1 w1
def wFor (wi : WI) (g : WG) (tb : WS) : WS := fun E ρ w => wi ρ w fun ds w1 => forD g tb E ds ρ w1
theorem ds_for {body : List Stmt} {wi : WI} {g : WG} {tb : WS} (hp : PassesOwn (model X.prog X.w) X.A X.env X.xe) (hc : X.calm = true) (hi : DI X tg it wi) (hg : DG X tg g) (hb : DSs X body tb)
    (hs : ∀ x, foldedSetIterable it X.env x = pure x := by intro _; rfl) : DS X (.For tg it body [] pos) (wFor wi g tb) := by
  refine ps_le (ps_for hp hc hi hg hb hs) fun D σ H ⟨Z, ρ, w, E, r, h, k⟩ => ?_
  refine ⟨Z, ρ, w, _, r, h, fun J H1 ds w1 e1 k1 itd h1 => ?_⟩
  have hk1 := k.ext e1
  refine ⟨fun i m σ' H' => m = ds.length - i ∧ i ≤ ds.length ∧ ∃ ρ' w', Ext w1 H1 w' H' ∧ Rep ⟨fw X, Z⟩ ρ' w' σ' H' ∧ forD g tb E (ds.drop i) ρ' w', ⟨_, rfl, Nat.zero_le _, ρ, w1, Ext.refl _ _, r.ext e1 k1, h1⟩, ?_⟩
  rintro i m σ' H' ⟨rfl, hi, ρ', w', e', r', hf⟩
  by_cases hl : i < ds.length
  · refine .inr ⟨itd.go i w' H' e' hl, fun σ2 H2 => ∃ ρ2 w2, Ext w1 H1 w2 H2 ∧ Rep ⟨fw X, Z⟩ ρ2 w2 σ2 H2 ∧ forD g tb E (ds.drop (i + 1)) ρ2 w2, ?_, ?_⟩
    · rintro σ2 H2 ⟨ρ2, w2, e2, r2, h2⟩
      exact ⟨ds.length - (i + 1), by omega, rfl, hl, ρ2, w2, e2, r2, h2⟩
    · intro x H'' hy
      obtain ⟨d, hd, e3, k3, n3⟩ := itd.yld i w' H' x H'' Z e' (fun b z => .inl z) r'.wk hl hy
      have hdrop : ds.drop i = d :: ds.drop (i + 1) := by
        rw [List.drop_eq_getElem_cons hl]
        rw [List.getElem?_eq_getElem hl] at hd
        rw [Option.some.inj hd]
      rw [hdrop, forD] at hf
      have e'' := e'.trans e3
      refine ⟨Z, ρ', w', d, _, r'.ext e3 k3, n3, hf, fun σ4 H4 ρ4 w4 e4 r4 h4 => ?_⟩
      have e5 := e''.trans e4
      refine ⟨Z, ρ4, w4, _, r4, h4, ⟨fun σ6 H6 ρ6 w6 e6 r6 h6 => ⟨ρ6, w6, e5.trans e6, r6, h6⟩, (hk1.ext e5).rt, fun σ6 H6 ρ6 w6 e6 r6 h6 => (hk1.ext e5).nx _ _ _ _ e6 r6 h6, fun σ6 H6 ρ6 w6 e6 r6 h6 => ⟨ρ6, w6, e5.trans e6, r6, h6⟩⟩⟩
  · have hz : i = ds.length := by omega
    subst hz
    rw [List.drop_length, forD] at hf
    exact .inl ⟨itd.stop w' H' e', hk1.nx _ _ _ _ e' r' hf⟩
/-! ### while: so many turns at most -/
def whD (tc : WT) (tb : WS) (E : WEnds) : Nat → Sl → Wd → Prop
  | 0, _, _ => False
  | n + 1, ρ, w => tc ρ w fun b w1 => if b = true then tb { nx := whD tc tb E n, rt := E.rt, bk := E.nx, ct := whD tc tb E n } ρ w1 else E.nx ρ w1
def wWhile (tc : WT) (tb : WS) : WS := fun E ρ w => ∃ n, whD tc tb E n ρ w
theorem ds_while {body : List Stmt} {tc : WT} {tb : WS} (hp : PassesOwn (model X.prog X.w) X.A X.env X.xe) (hc : DT X c tc) (hb : DSs X body tb) : DS X (.While c body [] pos) (wWhile tc tb) := by
  refine ps_le (ps_while hp hc hb) fun D σ H ⟨Z, ρ, w, E, r, ⟨n, h⟩, k⟩ => ?_
  refine ⟨fun m σ' H' => ∃ ρ' w', Ext w H w' H' ∧ Rep ⟨fw X, Z⟩ ρ' w' σ' H' ∧ whD tc tb E m ρ' w', ⟨n, ρ, w, Ext.refl _ _, r, h⟩, ?_⟩
  rintro m σ' H' ⟨ρ', w', e', r', hf⟩
  cases m with
  | zero => exact hf.elim
  | succ m =>
    refine upT1 r' hf fun b H1 w1 e1 r1 h1 => ?_
    have e2 := e'.trans e1
    cases b with
    | true =>
      refine iteT ⟨fun σ2 H2 => ∃ ρ2 w2, Ext w H w2 H2 ∧ Rep ⟨fw X, Z⟩ ρ2 w2 σ2 H2 ∧ whD tc tb E m ρ2 w2, fun σ2 H2 z => ⟨m, Nat.lt_succ_self _, z⟩, ?_⟩
      refine ⟨Z, ρ', w1, { nx := whD tc tb E m, rt := E.rt, bk := E.nx, ct := whD tc tb E m }, r1, by simpa using h1, ⟨fun σ6 H6 ρ6 w6 e6 r6 h6 => ⟨ρ6, w6, e2.trans e6, r6, h6⟩, (k.ext e2).rt, fun σ6 H6 ρ6 w6 e6 r6 h6 => (k.ext e2).nx _ _ _ _ e6 r6 h6, fun σ6 H6 ρ6 w6 e6 r6 h6 => ⟨ρ6, w6, e2.trans e6, r6, h6⟩⟩⟩
    | false => exact iteF ((k.ext e2).nx _ _ _ _ (Ext.refl _ _) r1 (by simpa using h1))
end
end Pd

/-! comprehensions -/
namespace Pd
open PySem L2

theorem wipe_in {σ : St} {i : Nat} : ∀ {vs : List Nat}, i ∈ vs → i < σ.length → (wipe σ vs)[i]? = some none
  | [], h, _ => by cases h
  | v :: vs, h, hl => by
    unfold wipe
    by_cases e : v = i
    · subst e
      exact List.getElem?_set_self (by rw [wipe_length]; exact hl)
    · rw [List.getElem?_set_ne e]
      rcases List.mem_cons.mp h with z | z
      · exact absurd z.symm e
      · exact wipe_in z hl
theorem wipe_eq {σ τ : St} {vs : List Nat} (hl : σ.length = τ.length) (h : ∀ i, i ∉ vs → σ[i]? = τ[i]?) : wipe σ vs = wipe τ vs := by
  apply List.ext_getElem?
  intro i
  by_cases hi : i ∈ vs
  · by_cases hk : i < σ.length
    · rw [wipe_in hi hk, wipe_in hi (by omega)]
    · rw [List.getElem?_eq_none (by rw [wipe_length]; omega), List.getElem?_eq_none (by rw [wipe_length]; omega)]
  · rw [wipe_out hi, wipe_out hi, h i hi]
theorem wipe_set {σ : St} {i : Nat} {o : Option V} {vs : List Nat} (h : i ∈ vs) : wipe (σ.set i o) vs = wipe σ vs :=
  wipe_eq (by simp) fun j hj => by
    have ne : i ≠ j := fun e => hj (by rw [← e]; exact h)
    rw [List.getElem?_set_ne ne]
theorem wipe_wipe {σ : St} {vs : List Nat} : wipe (wipe σ vs) vs = wipe σ vs := wipe_eq (wipe_length _ _) fun i hi => wipe_out hi
def wipeD (ρ : Sl) : List Nat → Sl
  | [] => ρ
  | v :: vs => (wipeD ρ vs).set v none
theorem wipeD_length (ρ : Sl) : ∀ vs : List Nat, (wipeD ρ vs).length = ρ.length
  | [] => rfl
  | v :: vs => by unfold wipeD; rw [List.length_set, wipeD_length ρ vs]
theorem wipeD_some {ρ : Sl} {i : Nat} {x : PV} : ∀ {vs : List Nat}, (wipeD ρ vs)[i]? = some (some x) → ρ[i]? = some (some x) ∧ i ∉ vs
  | [], h => ⟨h, by simp⟩
  | v :: vs, h => by
    unfold wipeD at h
    by_cases hi : v = i
    · subst hi
      by_cases hv : v < (wipeD ρ vs).length
      · rw [List.getElem?_set_self hv] at h; cases h
      · rw [List.getElem?_eq_none (by simpa using hv)] at h; cases h
    · rw [List.getElem?_set_ne hi] at h
      obtain ⟨h1, h2⟩ := wipeD_some h
      exact ⟨h1, by simp only [List.mem_cons, not_or]; exact ⟨fun e => hi e.symm, h2⟩⟩
theorem Rep.wipe {K : Kz} {ρ : Sl} {w : Wd} {σ : St} {H : Hp} (r : Rep K ρ w σ H) (vs : List Nat) : Rep K (wipeD ρ vs) w (L2.wipe σ vs) H :=
  ⟨by rw [wipeD_length, wipe_length]; exact r.len, fun i d h => by
    obtain ⟨h1, h2⟩ := wipeD_some h
    obtain ⟨v, h3, h4⟩ := r.sl i d h1
    exact ⟨v, by rw [wipe_out h2]; exact h3, h4⟩, r.wk⟩
/-- targets of a comprehension: they store its own names alone -/
def upGw (K : Fw) (vs : List Nat) (g : WG) : TG := fun v σ H Q => ∃ Z ρ w d Q', Rep ⟨K, Z⟩ ρ w σ H ∧ Dn ⟨K, Z⟩ w H v d ∧ g d ρ w Q' ∧ ∀ σ' H' ρ' w', Ext w H w' H' → Rep ⟨K, Z⟩ ρ' w' σ' H' → L2.wipe σ' vs = L2.wipe σ vs → Q' ρ' w' → Q σ' H'
def upGsw (K : Fw) (vs : List Nat) (g : WGs) : TGs := fun us σ H Q => ∃ Z ρ w ds Q', Rep ⟨K, Z⟩ ρ w σ H ∧ DnAll ⟨K, Z⟩ w H us ds ∧ g ds ρ w Q' ∧ ∀ σ' H' ρ' w', Ext w H w' H' → Rep ⟨K, Z⟩ ρ' w' σ' H' → L2.wipe σ' vs = L2.wipe σ vs → Q' ρ' w' → Q σ' H'
abbrev DGw (X : Cx) (vs : List Nat) (tg : Expr) (g : WG) : Prop := PG X tg (upGw (fw X) vs g)
section
variable {X : Cx} {tg e it elt : Expr} {te : WE} {pos p : Pos} {vs : List Nat}
theorem dgw_name {i : Nat} {x : Str} (hN : X.N.Nodup) (hi : X.N[i]? = some x) (hx : Loc X.env.scope x) (hm : i ∈ vs) (hf : X.fn x = true ∨ X.env.scope.names.lookup x = some .local := by first | exact .inl rfl | exact .inr rfl | assumption) : DGw X vs (.Name x pos) (wName i) :=
  pg_le (pg_name hN hi hx hf) fun v σ H Q ⟨Z, ρ, w, d, Q', r, n, h, k⟩ => k _ _ _ _ (Ext.refl _ _) (r.set n i) (wipe_set hm) h
theorem dgsw_nil : PGs X [] (upGsw (fw X) vs wgNil) := pgs_le pgs_nil fun us σ H Q ⟨Z, ρ, w, ds, Q', r, n, h, k⟩ => by
  cases n with
  | nil => exact ⟨rfl, k _ _ _ _ (Ext.refl _ _) r rfl h⟩
  | cons _ _ => exact h.elim
theorem dgsw_cons {es : List Expr} {g : WG} {gs : WGs} (h1 : DGw X vs tg g) (h2 : PGs X es (upGsw (fw X) vs gs)) (hs : (assignEach (tg :: es) X.env).map (·.2) = assign tg X.env :: (assignEach es X.env).map (·.2) := by rfl) : PGs X (tg :: es) (upGsw (fw X) vs (wgCons g gs)) :=
  pgs_le (pgs_cons h1 h2 hs) fun us σ H Q ⟨Z, ρ, w, ds, Q', r, n, h, k⟩ => by
    cases n with
    | nil => exact h.elim
    | cons n1 n2 =>
      refine ⟨_, _, rfl, Z, ρ, w, _, _, r, n1, h, fun σ1 H1 ρ1 w1 e1 r1 q1 h1 => ?_⟩
      exact ⟨Z, ρ1, w1, _, _, r1, n2.ext e1, h1, fun σ2 H2 ρ2 w2 e2 r2 q2 h2 => k _ _ _ _ (e1.trans e2) r2 (q2.trans q1) h2⟩
theorem dgw_tup {es : List Expr} {k : Nat} {gs : WGs} {n : Nat} (hc : X.calm = true) (h : PGs X es (upGsw (fw X) vs gs))
    (hn : (assignEach es X.env).length = n := by rfl) (hst : (assignEach es X.env).findIdx? (·.1) = none := by rfl) : DGw X vs (.Tuple es k pos) (wgTup n gs) :=
  pg_le (pg_tup hc h hn hst) fun v σ H Q ⟨Z, ρ, w, d, Q', r, n1, h, k⟩ => by
    cases n1 with
    | tup hp hn => exact ⟨_, _, rfl, hp.sq, by rw [hn.length]; exact h.1, Z, ρ, w, _, _, r, hn, h.2, k⟩
    | _ => exact h.elim
def wYes : WT := fun _ w Q => Q true w
abbrev DTs (X : Cx) (ifs : List Expr) (t : WT) : Prop := PTs X ifs (upT (fw X) t)
theorem dts_nil : DTs X [] wYes := ⟨fun pins s σ H Q I ⟨Z, ρ, w, Q', r, h, k⟩ => (pts_nil (X := X)).run pins s σ H Q I (k _ _ ⟨w, Ext.refl _ _, r.wk, h⟩)⟩
theorem dts_one {c : Expr} {t : WT} (h : DT X c t) : DTs X [c] t := pts_one h
def compD (g : WG) (tt : WT) (te : WE) (ρ : Sl) (k : List PV → Wd → Prop) : List PV → List PV → Wd → Prop
  | [], acc, w => k acc w
  | d :: r, acc, w => g d ρ w fun ρ1 w1 => tt ρ1 w1 fun b w2 => if b = true then te ρ1 w2 fun y w3 => compD g tt te ρ k r (acc ++ [y]) w3 else compD g tt te ρ k r acc w2
def wLc (wi : WI) (g : WG) (tt : WT) (te : WE) (vs : List Nat) : WE := fun ρ w Q => wi ρ w fun ds w1 => ds.length < sizeLine ∧ compD g tt te (wipeD ρ vs) (fun acc w2 => Q (.lst acc) w2) ds [] w1
theorem Wk.less {K : Kz} {w : Wd} {H : Hp} {Z' : Addr → Prop} (k : Wk K w H) (z : ∀ b, Z' b → K.Z b) : Wk ⟨K.K, Z'⟩ w H :=
  ⟨fun a m h => by
    cases k.at_ a m h with
    | lst h1 h2 => exact .lst h1 (h2.less z)
    | dct h1 h2 => exact .dct h1 (Paired.mapP h2 fun _ _ q => ⟨q.1, q.2.less z⟩)
    | dcp h1 h2 => exact .dcp h1 (Paired.mapP h2 fun _ _ q => ⟨q.1, q.2.1.less z, q.2.2.1, by obtain ⟨v, q1, q2⟩ := q.2.2.2; exact ⟨v, q1, q2.less z⟩⟩)
    | ins h1 h2 => exact .ins h1 (Paired.mapP h2 fun _ _ q => ⟨q.1, q.2.less z⟩), fun b q => k.zin b (z b q)⟩
/-- D is hidden from here on -/
abbrev zAdd (Z : Addr → Prop) (D : Addr) : Addr → Prop := fun b => Z b ∨ b = D
mutual
theorem Dn.upd {K : Kz} {w : Wd} {H : Hp} {D : Addr} {o : HO} (hz : K.Z D) : ∀ {v : V} {d : PV}, Dn K w H v d → Dn K w (L2.upd H D o) v d
  | _, _, .non => .non
  | _, _, .bl b => .bl b
  | _, _, .int i => .int i
  | _, _, .str x => .str x
  | _, _, .ref a => .ref a
  | _, _, .ty n => .ty n
  | _, _, .tup h r => .tup (by
      rcases h with ⟨h1, h2, h3⟩ | h
      · exact .inl ⟨h1, h2, by rw [upd_ne (fun e => h2 (by rw [e]; exact hz))]; exact h3⟩
      · exact .inr h) (DnAll.upd hz r)
  | _, _, .lst h r => .lst ⟨h.1, h.2.1, by rw [upd_ne (fun e => h.2.1 (by rw [e]; exact hz))]; exact h.2.2⟩ (DnAll.upd hz r)
  | _, _, .scr h r => .scr (by
      rcases h with ⟨h1, h2, h3⟩ | h
      · refine .inl ⟨h1, h2, ?_⟩
        unfold Rd
        rw [upd_ne (fun e => h2 (by rw [e]; exact hz))]
        exact h3
      · exact .inr h) (DnAll.upd hz r)
theorem DnAll.upd {K : Kz} {w : Wd} {H : Hp} {D : Addr} {o : HO} (hz : K.Z D) : ∀ {vs : List V} {ds : List PV}, DnAll K w H vs ds → DnAll K w (L2.upd H D o) vs ds
  | _, _, .nil => .nil
  | _, _, .cons h r => .cons (h.upd hz) (DnAll.upd hz r)
end
theorem Wk.upd {K : Kz} {w : Wd} {H : Hp} {D : Addr} {o : HO} (k : Wk K w H) (hz : K.Z D) : Wk K w (L2.upd H D o) := by
  have hw := (k.zin D hz).1
  refine ⟨fun a m h => ?_, fun b q => ?_⟩
  · have na : a ≠ D := fun e => by rw [e, hw] at h; cases h
    have hh : L2.upd H D o a = H a := upd_ne na
    cases k.at_ a m h with
    | lst h1 h2 => exact .lst (hh.trans h1) (h2.upd hz)
    | dct h1 h2 => exact .dct (hh.trans h1) (Paired.mapP h2 fun _ _ q => ⟨q.1, q.2.upd hz⟩)
    | dcp h1 h2 => exact .dcp (hh.trans h1) (Paired.mapP h2 fun _ _ q => ⟨q.1, q.2.1.upd hz, q.2.2.1, by obtain ⟨v, q1, q2⟩ := q.2.2.2; exact ⟨v, q1, q2.upd hz⟩⟩)
    | ins h1 h2 => exact .ins (hh.trans h1) (Paired.mapP h2 fun _ _ q => ⟨q.1, q.2.upd hz⟩)
  · obtain ⟨h1, u, h2⟩ := k.zin b q
    by_cases e : b = D
    · subst e; exact ⟨h1, o, upd_same⟩
    · exact ⟨h1, u, by rw [upd_ne e]; exact h2⟩
/-- a new object is laid and hidden -/
theorem Wk.hid {K : Fw} {Z : Addr → Prop} {w : Wd} {H : Hp} {D : Addr} {o : HO} (k : Wk ⟨K, Z⟩ w H) (hD : H D = none) : Wk ⟨K, zAdd Z D⟩ w (L2.upd H D o) := by
  have k' := k.new (o := o) hD
  have e := Ext.new (o := o) k hD
  have z : Zx ⟨K, Z⟩ H (zAdd Z D) := fun b q => q.elim .inl fun e => .inr (by rw [e]; exact hD)
  refine ⟨fun a m h => ?_, fun b q => ?_⟩
  · have na : a ≠ D := fun e => by rw [e, k.off hD] at h; cases h
    have hh : L2.upd H D o a = H a := upd_ne na
    cases k.at_ a m h with
    | lst h1 h2 => exact .lst (hh.trans h1) ((h2.hide z).ext e)
    | dct h1 h2 => exact .dct (hh.trans h1) (Paired.mapP h2 fun _ _ q => ⟨q.1, (q.2.hide z).ext e⟩)
    | dcp h1 h2 => exact .dcp (hh.trans h1) (Paired.mapP h2 fun _ _ q => ⟨q.1, (q.2.1.hide z).ext e, q.2.2.1, by obtain ⟨v, q1, q2⟩ := q.2.2.2; exact ⟨v, q1, (q2.hide z).ext e⟩⟩)
    | ins h1 h2 => exact .ins (hh.trans h1) (Paired.mapP h2 fun _ _ q => ⟨q.1, (q.2.hide z).ext e⟩)
  · rcases q with q | q
    · obtain ⟨h1, u, h2⟩ := k.zin b q
      exact ⟨h1, u, (e b u h1 h2).2⟩
    · subst q
      exact ⟨k.off hD, o, upd_same⟩
theorem lc_up {K : Fw} {wi : WI} {g : WG} {tt : WT} {te : WE} {vs : List Nat} {σ : St} {H : Hp} {Q : VK} (h : upE K (wLc wi g tt te vs) σ H Q) : tLc (upI K wi) (upGw K vs g) (upT K tt) (upE K te) vs σ H Q := by
  obtain ⟨Z, ρ, w, Q', r, h, k⟩ := h
  refine ⟨Z, ρ, w, _, r, h, fun J H1 ds w1 e1 k1 itd h1 => ?_⟩
  obtain ⟨hsz, h1⟩ := h1
  intro D hD
  have zx : Zx ⟨K, Z⟩ H1 (zAdd Z D) := fun b q => q.elim .inl fun e => .inr (by rw [e]; exact hD)
  have zD : (⟨K, zAdd Z D⟩ : Kz).Z D := .inr rfl
  have rp1 : Rep ⟨K, Z⟩ ρ w1 σ H1 := r.ext e1 k1
  have hDw : w1 D = none := k1.off hD
  refine ⟨fun i m H' => m = ds.length - i ∧ i ≤ ds.length ∧ ∃ acc accV w', Ext w1 H1 w' H' ∧ Wk ⟨K, zAdd Z D⟩ w' H' ∧ H' D = some (.lst accV) ∧ DnAll ⟨K, zAdd Z D⟩ w' H' accV acc ∧ acc.length ≤ i ∧ compD g tt te (wipeD ρ vs) (fun acc w2 => Q' (.lst acc) w2) (ds.drop i) acc w',
    ⟨_, rfl, Nat.zero_le _, [], [], w1, Ext.new k1 hD, k1.hid hD, upd_same, .nil, Nat.le_refl _, h1⟩, ?_⟩
  rintro i m H' ⟨rfl, hi, acc, accV, w', e', k', hH, hn, hl, hc⟩
  by_cases hlt : i < ds.length
  · refine .inr ⟨itd.go i w' H' e' hlt, fun H2 => ∃ acc accV w2, Ext w1 H1 w2 H2 ∧ Wk ⟨K, zAdd Z D⟩ w2 H2 ∧ H2 D = some (.lst accV) ∧ DnAll ⟨K, zAdd Z D⟩ w2 H2 accV acc ∧ acc.length ≤ i + 1 ∧ compD g tt te (wipeD ρ vs) (fun acc w2 => Q' (.lst acc) w2) (ds.drop (i + 1)) acc w2, ?_, ?_⟩
    · rintro H2 ⟨acc2, accV2, w2, z⟩
      exact ⟨ds.length - (i + 1), by omega, rfl, hlt, acc2, accV2, w2, z⟩
    · intro x H'' hy
      obtain ⟨d, hd, e3, k3, n3⟩ := itd.yld i w' H' x H'' (zAdd Z D) e' zx k' hlt hy
      have hdrop : ds.drop i = d :: ds.drop (i + 1) := by
        rw [List.drop_eq_getElem_cons hlt]
        rw [List.getElem?_eq_getElem hlt] at hd
        rw [Option.some.inj hd]
      rw [hdrop, compD] at hc
      have e13 := e'.trans e3
      have rp3 : Rep ⟨K, zAdd Z D⟩ (wipeD ρ vs) w' (L2.wipe σ vs) H'' :=
        ⟨by rw [wipeD_length, wipe_length]; exact r.len, fun j d' hj => by
          obtain ⟨q1, q2⟩ := wipeD_some hj
          obtain ⟨v, q3, q4⟩ := rp1.sl j d' q1
          exact ⟨v, by rw [wipe_out q2]; exact q3, (q4.hide zx).ext e13⟩, k3⟩
      refine ⟨zAdd Z D, wipeD ρ vs, w', d, _, rp3, n3, hc, fun σ4 H4 ρ4 w4 e4 r4 q4 h4 => ⟨q4.trans wipe_wipe, ?_⟩⟩
      refine upT1 r4 h4 fun b H5 w5 e5 r5 h5 => ?_
      have hDD : w' D = none := (k'.zin D zD).1
      cases b with
      | false =>
        refine iteF ⟨acc, accV, w5, e13.trans (e4.trans e5), r5.wk, ?_, hn.ext (e3.trans (e4.trans e5)), by omega, by simpa using h5⟩
        exact ((e3.trans (e4.trans e5)) D _ hDD hH).2
      | true =>
        refine iteT (up1 r5 (by simpa using h5) fun y H6 dy w6 e6 r6 n6 h6 => ?_)
        have e36 := e3.trans (e4.trans (e5.trans e6))
        refine ⟨accV, (e36 D _ hDD hH).2, by rw [hn.length]; omega, ?_⟩
        refine ⟨acc ++ [dy], accV ++ [y], w6, ?_, r6.wk.upd zD, upd_same, (hn.ext e36).append (.cons n6 .nil) |>.upd zD, by simp; omega, h6⟩
        have e16 := e'.trans e36
        intro b o q1 q2
        have nb : b ≠ D := ne_of_none q2 hD
        exact ⟨(e16 b o q1 q2).1, by rw [upd_ne nb]; exact (e16 b o q1 q2).2⟩
  · have hz : i = ds.length := by omega
    subst hz
    rw [List.drop_length, compD] at hc
    refine .inl ⟨itd.stop w' H' e', k _ _ ⟨.lst acc, w', e1.trans e', k'.less (Z' := Z) (fun b q => Or.inl q), .lst ⟨(k'.zin D zD).1, k1.nz hD, hH⟩ (hn.less (Z' := Z) fun b q => Or.inl q), hc⟩⟩
theorem de_lc {ifs : List Expr} {scope : Scope} {own : List (Str × Nat)} {wi : WI} {g : WG} {tt : WT} (hc : X.calm = true) (hN : X.N.Nodup) (hi : DI X tg it wi) (ok : BlkOk X.N X.env.scope scope own)
    (hg : ∀ (s : Shared) (H : Hp) (C : Addr) (cl : List (Str × Addr)) (fp : List Addr), DGw (X.blk s H scope (compEnvC scope cl C X.env) fp) (own.map (·.2)) tg g) (ht : ∀ (s : Shared) (H : Hp) (C : Addr) (cl : List (Str × Addr)) (fp : List Addr), DTs (X.blk s H scope (compEnvC scope cl C X.env) fp) ifs tt)
    (he : ∀ (s : Shared) (H : Hp) (C : Addr) (cl : List (Str × Addr)) (fp : List Addr), DE (X.blk s H scope (compEnvC scope cl C X.env) fp) elt te) (hs : ∀ x, foldedSetIterable it X.env x = pure x := by intro _; rfl) :
    DE X (.ListComp elt [⟨tg, it, ifs, 0⟩] scope pos) (wLc wi g tt te (own.map (·.2))) :=
  pe_le (pe_lc hc hN hi ok hg ht he hs) fun _ _ _ h => lc_up h
/-- y = [..] -/
theorem ds_setLc {i : Nat} {y : Str} {py spos : Pos} {ifs : List Expr} {scope : Scope} {own : List (Str × Nat)} {wi : WI} {g : WG} {tt : WT} (hc : X.calm = true) (hN : X.N.Nodup) (hy : X.N[i]? = some y) (hyl : X.env.scope.names.lookup y = some .local)
    (hsw : swapsWith (.ListComp elt [⟨tg, it, ifs, 0⟩] scope pos) (some (.Name y py)) spos.line X.env = pure true) (hi : DI X tg it wi) (ok : BlkOk X.N X.env.scope scope own)
    (hg : ∀ (s : Shared) (H : Hp) (C : Addr) (cl : List (Str × Addr)) (fp : List Addr), DGw (X.blk s H scope (compEnvC scope cl C X.env) fp) (own.map (·.2)) tg g) (ht : ∀ (s : Shared) (H : Hp) (C : Addr) (cl : List (Str × Addr)) (fp : List Addr), DTs (X.blk s H scope (compEnvC scope cl C X.env) fp) ifs tt)
    (he : ∀ (s : Shared) (H : Hp) (C : Addr) (cl : List (Str × Addr)) (fp : List Addr), DE (X.blk s H scope (compEnvC scope cl C X.env) fp) elt te) (hs : ∀ x, foldedSetIterable it X.env x = pure x := by intro _; rfl) :
    DS X (.Assign [.Name y py] (.ListComp elt [⟨tg, it, ifs, 0⟩] scope pos) spos) (wAsg (wLc wi g tt te (own.map (·.2))) (wName i)) :=
  ps_le (ps_setLc hc hN hy hyl hsw hi ok hg ht he hs) fun D σ H ⟨Z, ρ, w, E, r, h, k⟩ => lc_up ⟨Z, ρ, w, _, r, h, fun v H1 ⟨d, w1, e1, k1, n, h1⟩ => k.nx _ _ _ _ e1 ((r.ext e1 k1).set n i) h1⟩
end
end Pd

/-! methods -/
namespace Pd
open PySem L2

def strsOf : List PV → Option (List Str)
  | [] => some []
  | .str b :: r => (strsOf r).map (b :: ·)
  | _ => none
theorem strsOf_dn {K : Kz} {w : Wd} {H : Hp} : ∀ {es : List PV} {bs : List Str} {xs : List V}, strsOf es = some bs → DnAll K w H xs es → xs = bs.map V.str
  | [], _, _, h, n => by cases h; cases n; rfl
  | .str b :: r, bs, _, h, n => by
    cases n with
    | cons h1 h2 =>
      cases h1
      cases e : strsOf r with
      | none => simp [strsOf, e] at h
      | some cs =>
        have h' : b :: cs = bs := by simpa [strsOf, e] using h
        subst h'
        rw [strsOf_dn e h2]; rfl
  | .non :: _, _, _, h, _ => by simp [strsOf] at h
  | .int _ :: _, _, _, h, _ => by simp [strsOf] at h
  | .bl _ :: _, _, _, h, _ => by simp [strsOf] at h
  | .tup _ :: _, _, _, h, _ => by simp [strsOf] at h
  | .lst _ :: _, _, _, h, _ => by simp [strsOf] at h
  | .scr _ :: _, _, _, h, _ => by simp [strsOf] at h
  | .ref _ :: _, _, _, h, _ => by simp [strsOf] at h
  | .ty _ :: _, _, _, h, _ => by simp [strsOf] at h
def onS (x : PV) (k : Str → Prop) : Prop := match x with
  | .str a => k a
  | _ => False
def rJoin (a : Str) (y : PV) (w2 : Wd) (Q : WQ) : Prop := ∃ es ys, seqOf w2 y = some es ∧ strsOf es = some ys ∧ (ys.map (·.length)).sum + ys.length * a.length ≤ 16777216 ∧ Q (.str (Txt.join a ys)) w2
def wJoin (to te : WE) : WE := fun ρ w Q => to ρ w fun x w1 => onS x fun a => te ρ w1 fun y w2 => rJoin a y w2 Q
section
variable {X : Cx} {o e : Expr} {to te : WE} {pos apos : Pos}
theorem de_join (ho : DE X o to) (he : DE X e te) (hs : starEach [e] X.env = [(false, eval e X.env)] := by rfl) (hbase : attributeBase o "join" X.env (eval o X.env) = eval o X.env := by rfl) (hline : (apos.endLine == pos.line) = true := by rfl) :
    DE X (.Call (.Attribute o "join" apos) [e] [] pos) (wJoin to te) := by
  refine pe_le (pe_join (X := X) (apos := apos) (pos := pos) ho he hs hbase hline) fun σ H Q ⟨Z, ρ, w, Q', r, h, k⟩ => ?_
  refine up1 r h fun x H1 d w1 e1 r1 n1 h1 => ?_
  cases n1 with
  | str a =>
    refine ⟨⟨a, rfl⟩, up1 r1 h1 fun y H2 dy w2 e2 r2 n2 h2 => ?_⟩
    obtain ⟨es, ys, hq, hs, hz, q⟩ := h2
    obtain ⟨p, xs, rfl, hh, hn⟩ := seqOf_sq r2.wk n2 hq
    have ee := strsOf_dn hs hn
    subst ee
    exact ⟨a, p, ys, rfl, rfl, hh.imp id fun z => z.1.sq, hz, k _ _ (post_trans (e1.trans e2) (post_same r2.wk (.str _) q))⟩
  | _ => exact h1.elim
/-- a method of a built-in class, as a rule of data -/
structure MeD (X : Cx) (name : Str) (tyD : PV → Wd → Prop) (rD : PV → List PV → Wd → WQ → Prop) : Prop where
  ex : ∃ (T id : String) (r : V → List V → Hp → VK → Prop), PlainAttrs T ∧ Slot T name id ∧ typeOf (.builtin id) = pure (.type "method_descriptor") ∧ MtR X id r ∧
    (∀ (Z : Addr → Prop) w H x d, Wk ⟨fw X, Z⟩ w H → Dn ⟨fw X, Z⟩ w H x d → tyD d w → tyV X.K T x H) ∧
    ∀ (Z : Addr → Prop) x xs H d ds w Q' (Q : VK), Wk ⟨fw X, Z⟩ w H → Dn ⟨fw X, Z⟩ w H x d → DnAll ⟨fw X, Z⟩ w H xs ds → rD d ds w Q' → (∀ v H', Post ⟨fw X, Z⟩ w H Q' v H' → Q v H') → r x xs H Q
def wBM (tyD : PV → Wd → Prop) (rD : PV → List PV → Wd → WQ → Prop) (to : WE) (t : WA) : WE := fun ρ w Q => to ρ w fun x w1 => tyD x w1 ∧ t ρ w1 fun ds w2 => rD x ds w2 Q
variable {es : List Expr} {t : WA} {name : Str} {tyD : PV → Wd → Prop} {rD : PV → List PV → Wd → WQ → Prop}
theorem de_m (h : MeD X name tyD rD) (ho : DE X o to) (ha : DA X (e :: es) t) (hbase : attributeBase o name X.env (eval o X.env) = eval o X.env := by rfl)
    (hfew : ((backTo pos (starEach (e :: es) X.env)).all (fun x => !x.1) && (backToKw pos (keywordEach [] X.env)).all (fun x => x.1.isSome) && decide ((e :: es).length + ([] : List Keyword).length + (if ([] : List Keyword).isEmpty then 0 else 1) < 30)) = true := by rfl)
    (hline : (apos.endLine == pos.line) = true := by rfl) (hs : starEach (e :: es) X.env = (false, eval e X.env) :: starEach es X.env := by rfl) (hplain : (backTo pos (starEach es X.env)).any (·.1) = false := by rfl) :
    DE X (.Call (.Attribute o name apos) (e :: es) [] pos) (wBM tyD rD to t) := by
  obtain ⟨T, id, r, h1, h2, h3, h4, h5, h6⟩ := h.ex
  refine pe_le (pe_bm h1 h2 h3 h4 ho ha hbase hfew hline hs hplain) fun σ H Q ⟨Z, ρ, w, Q', r, h, k⟩ => ?_
  refine up1 r h fun x H1 d w1 e1 r1 n1 q1 => ?_
  refine ⟨h5 Z w1 H1 x d r1.wk n1 q1.1, upA1 r1 q1.2 fun xs H2 ds w2 e2 r2 n2 q2 => ?_⟩
  exact h6 Z x xs H2 d ds w2 Q' Q r2.wk (n1.ext e2) n2 q2 fun v H' p => k v H' (post_trans (e1.trans e2) p)
theorem de_m0 (h : MeD X name tyD rD) (ho : DE X o to) (hbase : attributeBase o name X.env (eval o X.env) = eval o X.env := by rfl) (hline : (apos.endLine == pos.line) = true := by rfl) :
    DE X (.Call (.Attribute o name apos) [] [] pos) (wBM tyD rD to wNil) := by
  obtain ⟨T, id, r, h1, h2, h3, h4, h5, h6⟩ := h.ex
  refine pe_le (pe_bm0 h1 h2 h3 h4 ho hbase hline) fun σ H Q ⟨Z, ρ, w, Q', r, h, k⟩ => ?_
  refine up1 r h fun x H1 d w1 e1 r1 n1 q1 => ?_
  exact ⟨h5 Z w1 H1 x d r1.wk n1 q1.1, h6 Z x [] H1 d [] w1 Q' Q r1.wk n1 .nil q1.2 fun v H' p => k v H' (post_trans e1 p)⟩
/-- a list that may change -/
def isM (d : PV) (w : Wd) : Prop := match d with
  | .ref a => match w a with
    | some (.lst _) => True
    | _ => False
  | _ => False
theorem isM_ty {K : Fw} {Z : Addr → Prop} {w : Wd} {H : Hp} {x : V} {d : PV} (k : Wk ⟨K, Z⟩ w H) (n : Dn ⟨K, Z⟩ w H x d) (h : isM d w) : ∃ a ds xs, d = .ref a ∧ x = .ref a ∧ w a = some (.lst ds) ∧ H a = some (.lst xs) ∧ DnAll ⟨K, Z⟩ w H xs ds := by
  unfold isM at h
  split at h
  · split at h
    · rename_i e
      cases n
      cases k.at_ _ _ e with
      | lst h1 h2 => exact ⟨_, _, _, rfl, rfl, e, h1, h2⟩
    · exact h.elim
  · exact h.elim
/-- what may change is changed -/
theorem post_put {K : Kz} {w : Wd} {H : Hp} {Q : WQ} {a : Addr} {m : MO} {ds : List PV} {xs : List V} {v : V} {d : PV} (k : Wk K w H) (h : w a = some m) (n : DnAll K w H xs ds) (nv : Dn K w H v d) (q : Q d (wset w a (.lst ds))) : Post K w H Q v (upd H a (.lst xs)) :=
  ⟨d, _, Ext.put h, k.put h (.lst upd_same (n.ext (Ext.put h))), nv.ext (Ext.put h), q⟩
def mAppend : PV → List PV → Wd → WQ → Prop := fun d es w Q => match d, es with
  | .ref a, [y] => match w a with
    | some (.lst ds) => ds.length < sizeLine ∧ Q .non (wset w a (.lst (ds ++ [y])))
    | _ => False
  | _, _ => False
theorem me_append : MeD X "append" isM mAppend := by
  refine ⟨"list", "list.append", _, PySem.F.plainAttrs_list, PySem.F.slot_list_append, PySem.F.type_list_append, mt_append, fun Z w H x d k n h => ?_, fun Z x xs H d ds w Q' Q k n na h kq => ?_⟩
  · obtain ⟨a, ds, xs, rfl, rfl, h1, h2, h3⟩ := isM_ty k n h
    exact .inl ⟨rfl, _, SqL.of h2⟩
  · unfold mAppend at h
    split at h
    · split at h
      · rename_i e
        obtain ⟨v, rfl, nv⟩ := dall1 na
        cases n
        cases k.at_ _ _ e with
        | lst h1 h2 => exact ⟨_, _, v, rfl, rfl, h1, by rw [h2.length]; exact h.1, kq _ _ (post_put k e (h2.append (.cons nv .nil)) .non h.2)⟩
      · exact h.elim
    · exact h.elim
def mExtend : PV → List PV → Wd → WQ → Prop := fun d es w Q => match d, es with
  | .ref a, [y] => match w a, vw w y with
    | some (.lst ds), .lst zs => ds.length + zs.length ≤ sizeLine ∧ Q .non (wset w a (.lst (ds ++ zs)))
    | _, _ => False
  | _, _ => False
theorem me_extend : MeD X "extend" isM mExtend := by
  refine ⟨"list", "list.extend", _, PySem.F.plainAttrs_list, PySem.F.slot_list_extend, PySem.F.type_list_extend, mt_extend, fun Z w H x d k n h => ?_, fun Z x xs H d ds w Q' Q k n na h kq => ?_⟩
  · obtain ⟨a, ds, xs, rfl, rfl, h1, h2, h3⟩ := isM_ty k n h
    exact .inl ⟨rfl, _, SqL.of h2⟩
  · unfold mExtend at h
    split at h
    · split at h
      · rename_i e e2
        obtain ⟨v, rfl, nv⟩ := dall1 na
        cases n
        obtain ⟨b, ys, rfl, hb, hn⟩ := vwL k nv e2
        cases k.at_ _ _ e with
        | lst h1 h2 => exact ⟨_, _, _, _, rfl, rfl, h1, hb, by rw [h2.length, hn.length]; exact h.1, kq _ _ (post_put k e (h2.append hn) .non h.2)⟩
      · exact h.elim
    · exact h.elim
end
end Pd

/-! defs of the text, the law's end -/
namespace Pd
open PySem L2

/-- the module's own constants -/
def GT (K : Frag) (mg : Str → Option Value) (x : Str) (ds : List PV) : Prop := ∃ a xs, mg x = some (.ref a) ∧ WrT K a xs ∧ ∀ (P : Program) (W : World) (Z : Addr → Prop) w H, DnAll ⟨⟨P, W, K⟩, Z⟩ w H xs ds
def GI (mg : Str → Option Value) (x : Str) (i : Int) : Prop := ∃ t, mg x = some (.int i t)
def GS (mg : Str → Option Value) (x : Str) (i : Str) : Prop := ∃ t, mg x = some (.str i t)
section
variable {X : Cx} {x : Str} {pos : Pos}
theorem de_gI {i : Int} (hg : Gl X x) (hm : GI X.mg x i) (hd : (x == ("__debug__" : Str)) = false := by decide) : DE X (.Name x pos) (wC (.int i)) := by
  obtain ⟨t, h⟩ := hm
  exact de_gInt hg h hd
theorem de_gS {i : Str} (hg : Gl X x) (hm : GS X.mg x i) (hd : (x == ("__debug__" : Str)) = false := by decide) : DE X (.Name x pos) (wC (.str i)) := by
  obtain ⟨t, h⟩ := hm
  exact de_gStr hg h hd
theorem de_gT {ds : List PV} (hg : Gl X x) (hm : GT X.K X.mg x ds) (hd : (x == ("__debug__" : Str)) = false := by decide) : DE X (.Name x pos) (wC (.tup ds)) := by
  obtain ⟨a, xs, h1, h2, h3⟩ := hm
  exact de_gTup hg h1 h2 (h3 _ _) hd
end
/-- the def of that name stands in the text's written part -/
def Fx (K : Frag) (mg : Str → Option Value) (x : Str) (st : Stmt) (ps : List Str) : Prop := ∃ f fd, Fun K x x st f fd ∧ mg x = some (.ref f) ∧ Binds K fd ps []
section
variable {P : Program} {w : World} {K : Frag} {mg : Str → Option Value} {base : Heap}
theorem fx_mk {h : Heap} {x : Str} {st : Stmt} {ps : List Str} {f : Addr} {oc : Value} {od an : Option Addr} {osl : Array (Option Value)} {kV doc pm cdv ct : Value} (X : K.In h) (G : h.Ns mainGlobals mg)
    (a : PySem.W.nsIn K mainGlobals x = some (some (.ref f))) (l : K.lookup f = some ⟨oc, od, .func (PySem.W.fnOf x x (defArgs st) (defBody st) (defScope st) .none kV doc pm an cdv ct), osl⟩) (c : PySem.W.codeIn K cdv x = true) (k : PySem.W.keepIn K (.ref f) = true)
    (hb : ∀ (kV doc pm : Value) (an : Option Addr) (cdv ct : Value) (us : List Value), us.length = ps.length → bindArgs (PySem.W.fnOf x x (defArgs st) (defBody st) (defScope st) .none kV doc pm an cdv ct) ⟨us, []⟩ = pure (ps.zip us)) : Fx K mg x st ps :=
  ⟨f, _, fun_mk l c k, PySem.W.mg_of X G a, (fun_mk (st := st) l c k).binds hb⟩
theorem fd_of {x : Str} {st : Stmt} {N ps : List Str} {k : Nat} {p : PSp} {t : WS} (F : Fx K mg x st ps) (S : FnScope N ps (defScope st))
    (body : ∀ (f : Addr) (cdv : Value) (A : Around) (outer : List Env) (s : Shared) (H : Hp) (E : XK), Room k (A.deeper (PyProof.Rows.envOfC x (defScope st) s.heap.objs.size f cdv)) →
      DSs (cxOf CX0 P w K mg base N x (defScope st) f cdv A outer s H E).nox (defBody st) t)
    (len : ∀ ds w Q, p ds w Q → ds.length = ps.length) (hp : ∀ ds w' Q, p ds w' Q → t { nx := fun _ w2 => Q .non w2, rt := Q } (begin0 N ds) w') : FD P w K mg base x (k + 1) p := by
  obtain ⟨f, fd, h1, h2, h3⟩ := F
  exact fd_mk h1 h2 h3 S len fun cdv A outer s H E hr => ⟨t, body f cdv A outer s H E hr, hp⟩
/-- the law's own def -/
def pLaw : PSp := fun ds w Q => ∃ ns : List Int, ds = [.scr (ns.map PV.int)] ∧ ns.length ≤ 63 ∧ w = (fun _ => none) ∧ ∀ w', Q (.bl true) w'
theorem dn_ints {K : Kz} {w : Wd} {H : Hp} : ∀ ns : List Int, DnAll K w H (ns.map V.int) (ns.map PV.int)
  | [] => .nil
  | n :: r => .cons (.int n) (dn_ints r)
theorem law_up {H : Hp} {a : Addr} {ns : List Int} (hl : ns.length ≤ 63) (hS : SqL K H a (ns.map V.int)) : upSp ⟨P, w, K⟩ pLaw [.ref a] H (fun v _ => v = .bl true) fun _ _ _ => False := by
  refine ⟨fun _ => False, _, fun _ => none, fun d _ => d = .bl true, ⟨(fun _ _ h => nomatch h), fun _ h => False.elim h⟩, .cons (.scr (xs := ns.map V.int) (ds := ns.map PV.int) ?_ (dn_ints ns)) .nil, ⟨ns, rfl, hl, rfl, fun _ => rfl⟩, ?_⟩
  · rcases hS with h | h
    · exact .inl ⟨rfl, fun z => z, h⟩
    · exact .inr h
  · rintro v H' ⟨d, w', _, _, n, rfl⟩
    cases n
    rfl
theorem law_end {l : PySem.W.OpenLaw} {k : Nat} {q : Program} {loose : List Str} {XP : (Str → Option Value) → Heap → Prop} {YP : World → Heap → Prop} {d : DefRec} {K : Params → Frag} {x : Str} {st : Stmt}
    (hn : l.most = some 63) (hdf : d.params.defaults = []) (hr : Room k callerA) (hd : d.name = "law") (hb : ∀ (kV doc pm : Value) (an : Option Addr) (cdv ct : Value) (s : Shared) (u : Value), BindsTo s (PySem.W.fnOf "law" "law" (defArgs st) (defBody st) (defScope st) .none kV doc pm an cdv ct) ⟨[u], []⟩ [(x, u)])
    (hY : ∀ (w : World) (h : Heap), YP w h → (K w.params).In h)
    (F : ∀ (w : World) (mg : Str → Option Value) (h : Heap), (K w.params).In h → h.Ns mainGlobals mg → (∀ fa : Addr, mg "law" = some (.ref fa) → ∃ fd, Fun (K w.params) "law" "law" st fa fd) ∧
      ∀ base : Heap, (K w.params).In base → base.Ns mainGlobals mg → ∀ fa fd, mg "law" = some (.ref fa) → Fun (K w.params) "law" "law" st fa fd → FnOk l.prog w (K w.params) mg base CX0 k fa fd [x] (upSp ⟨l.prog, w, K w.params⟩ pLaw)) :
    PySem.W.WalkO q loose XP YP l.row.toRowW d [] (fun f vs => PySem.call f vs) := by
  refine L2.walk_of (n := 63) (k := k) (x := x) (CX := fun _ => CX0) (sp := fun w => upSp ⟨l.prog, w, K w.params⟩ pLaw) hn (by decide) hdf hr hY (fun w mg fa h hK hG hm => ?_) (fun w H a ns hl _ hS => law_up hl hS) fun _ _ _ _ _ z => z
  rw [hd] at hm
  obtain ⟨h1, h2⟩ := F w mg h hK hG
  obtain ⟨fd, hf⟩ := h1 fa hm
  refine ⟨fd, ?_, fun base b1 b2 => h2 base b1 b2 fa fd hm hf⟩
  obtain ⟨oc, od, kV, doc, pm, an, cdv, ct, osl, rfl, _, _⟩ := hf.ex
  exact hb kV doc pm an cdv ct
/-- the same of the law's def as FnOk -/
theorem fn_of_law {x : Str} {st : Stmt} {N : List Str} {k : Nat} {p : PSp} {t : WS} {fa : Addr} {fd : FuncData} (F : Fun K "law" "law" st fa fd) (S : FnScope N [x] (defScope st))
    (body : ∀ (f : Addr) (cdv : Value) (A : Around) (outer : List Env) (s : Shared) (H : Hp) (E : XK), Room k (A.deeper (PyProof.Rows.envOfC "law" (defScope st) s.heap.objs.size f cdv)) →
      DSs (cxOf CX0 P w K mg base N "law" (defScope st) f cdv A outer s H E).nox (defBody st) t)
    (len : ∀ ds w Q, p ds w Q → ds.length = 1) (hp : ∀ ds w' Q, p ds w' Q → t { nx := fun _ w2 => Q .non w2, rt := Q } (begin0 N ds) w') : FnOk P w K mg base CX0 (k + 1) fa fd [x] (upSp ⟨P, w, K⟩ p) := by
  refine F.ok S (fun vs H Q E h => ?_) fun cdv A outer s H vs Q E hr h => ?_
  · obtain ⟨Z, ds, w, Q', h1, h2, h3, _⟩ := h
    rw [h2.length]
    exact len _ _ _ h3
  · obtain ⟨Z, ds, w, Q', h1, h2, h3, h4⟩ := h
    refine ⟨_, body fa cdv A outer s H E hr, Z, begin0 N ds, w, _, begin_rep h1 h2, hp ds w Q' h3, ⟨fun σ' H' ρ' w' e r q => ?_, fun v H' q => h4 v H' q, fun _ _ _ _ _ _ q => q.elim, fun _ _ _ _ _ _ q => q.elim⟩⟩
    exact h4 _ _ ⟨.non, w', e, r.wk, .non, q⟩
end
end Pd

/-! isinstance by written classes; loops by induction -/
namespace Pd
open PySem L2

def okTy (w : Wd) : PV → Prop
  | .ref a => match w a with
    | some (.lst _) => True
    | some (.dct _) => True
    | _ => False
  | .ty _ => False
  | _ => True
def isIntP (_ : Wd) : PV → Bool
  | .int _ => true
  | .bl _ => true
  | _ => false
def isBoolP (_ : Wd) : PV → Bool
  | .bl _ => true
  | _ => false
def isStrP (_ : Wd) : PV → Bool
  | .str _ => true
  | _ => false
def isTupP (_ : Wd) : PV → Bool
  | .tup _ => true
  | _ => false
def isLstP (w : Wd) : PV → Bool
  | .lst _ => true
  | .scr _ => true
  | .ref a => match w a with
    | some (.lst _) => true
    | _ => false
  | _ => false
def isDctP (w : Wd) : PV → Bool
  | .ref a => match w a with
    | some (.dct _) => true
    | _ => false
  | _ => false
def cI (c : String) (f : Wd → PV → Bool) : RcD := fun ds w Q => match ds with
  | [x, .ty c'] => c' = c ∧ okTy w x ∧ Q (.bl (f w x)) w
  | _ => False
def cI2 (c1 c2 : String) (f1 f2 : Wd → PV → Bool) : RcD := fun ds w Q => match ds with
  | [x, .tup [.ty a, .ty b]] => (a = c1 ∧ b = c2) ∧ okTy w x ∧ Q (.bl (f1 w x || f2 w x)) w
  | _ => False
def TyRule (c : String) (f : Wd → PV → Bool) : Prop := knownC c = true ∧ ∀ w x, okTy w x → ∃ t, tyName w x = some t ∧ subTy t c = f w x
theorem ty_by {c : String} {f : Wd → PV → Bool} (hk : knownC c = true) (h0 : subTy "NoneType" c = f (fun _ => none) .non) (h1 : ∀ w b, subTy "bool" c = f w (.bl b)) (h2 : ∀ w b, subTy "int" c = f w (.int b)) (h3 : ∀ w b, subTy "str" c = f w (.str b))
    (h4 : ∀ w b, subTy "tuple" c = f w (.tup b)) (h5 : ∀ w b, subTy "list" c = f w (.lst b)) (h6 : ∀ w b, subTy "list" c = f w (.scr b)) (h7 : ∀ w a xs, w a = some (.lst xs) → subTy "list" c = f w (.ref a)) (h8 : ∀ w a xs, w a = some (.dct xs) → subTy "dict" c = f w (.ref a))
    (h9 : ∀ w, f w .non = f (fun _ => none) .non) : TyRule c f := by
  refine ⟨hk, fun w x h => ?_⟩
  cases x with
  | non => exact ⟨_, rfl, by rw [h9]; exact h0⟩
  | bl b => exact ⟨_, rfl, h1 w b⟩
  | int b => exact ⟨_, rfl, h2 w b⟩
  | str b => exact ⟨_, rfl, h3 w b⟩
  | tup b => exact ⟨_, rfl, h4 w b⟩
  | lst b => exact ⟨_, rfl, h5 w b⟩
  | scr b => exact ⟨_, rfl, h6 w b⟩
  | ref a =>
    simp only [okTy] at h
    split at h
    · rename_i e; exact ⟨"list", by simp only [tyName, e], h7 w a _ e⟩
    · rename_i e; exact ⟨"dict", by simp only [tyName, e], h8 w a _ e⟩
    · exact h.elim
  | ty n => exact h.elim
theorem tr_int : TyRule "int" isIntP := ty_by (by decide) (by decide) (fun _ _ => by simp [subTy, isIntP]) (fun _ _ => by simp [subTy, isIntP]) (fun _ _ => by simp [subTy, isIntP]) (fun _ _ => by simp [subTy, isIntP]) (fun _ _ => by simp [subTy, isIntP]) (fun _ _ => by simp [subTy, isIntP]) (fun _ _ _ e => by simp [subTy, isIntP, e]) (fun _ _ _ e => by simp [subTy, isIntP, e]) fun _ => rfl
theorem tr_bool : TyRule "bool" isBoolP := ty_by (by decide) (by decide) (fun _ _ => by simp [subTy, isBoolP]) (fun _ _ => by simp [subTy, isBoolP]) (fun _ _ => by simp [subTy, isBoolP]) (fun _ _ => by simp [subTy, isBoolP]) (fun _ _ => by simp [subTy, isBoolP]) (fun _ _ => by simp [subTy, isBoolP]) (fun _ _ _ e => by simp [subTy, isBoolP, e]) (fun _ _ _ e => by simp [subTy, isBoolP, e]) fun _ => rfl
theorem tr_str : TyRule "str" isStrP := ty_by (by decide) (by decide) (fun _ _ => by simp [subTy, isStrP]) (fun _ _ => by simp [subTy, isStrP]) (fun _ _ => by simp [subTy, isStrP]) (fun _ _ => by simp [subTy, isStrP]) (fun _ _ => by simp [subTy, isStrP]) (fun _ _ => by simp [subTy, isStrP]) (fun _ _ _ e => by simp [subTy, isStrP, e]) (fun _ _ _ e => by simp [subTy, isStrP, e]) fun _ => rfl
theorem tr_tup : TyRule "tuple" isTupP := ty_by (by decide) (by decide) (fun _ _ => by simp [subTy, isTupP]) (fun _ _ => by simp [subTy, isTupP]) (fun _ _ => by simp [subTy, isTupP]) (fun _ _ => by simp [subTy, isTupP]) (fun _ _ => by simp [subTy, isTupP]) (fun _ _ => by simp [subTy, isTupP]) (fun _ _ _ e => by simp [subTy, isTupP, e]) (fun _ _ _ e => by simp [subTy, isTupP, e]) fun _ => rfl
theorem tr_lst : TyRule "list" isLstP := ty_by (by decide) (by decide) (fun _ _ => by simp [subTy, isLstP]) (fun _ _ => by simp [subTy, isLstP]) (fun _ _ => by simp [subTy, isLstP]) (fun _ _ => by simp [subTy, isLstP]) (fun _ _ => by simp [subTy, isLstP]) (fun _ _ => by simp [subTy, isLstP]) (fun _ _ _ e => by simp [subTy, isLstP, e]) (fun _ _ _ e => by simp [subTy, isLstP, e]) fun _ => rfl
theorem tr_dct : TyRule "dict" isDctP := ty_by (by decide) (by decide) (fun _ _ => by simp [subTy, isDctP]) (fun _ _ => by simp [subTy, isDctP]) (fun _ _ => by simp [subTy, isDctP]) (fun _ _ => by simp [subTy, isDctP]) (fun _ _ => by simp [subTy, isDctP]) (fun _ _ => by simp [subTy, isDctP]) (fun _ _ _ e => by simp [subTy, isDctP, e]) (fun _ _ _ e => by simp [subTy, isDctP, e]) fun _ => rfl
theorem ca_le {X : Cx} {f : Value} {r r' : RcD} (h : CaD X f r) (hl : ∀ ds w Q, r' ds w Q → r ds w Q) : CaD X f r' := by
  obtain ⟨r0, h1, h2⟩ := h.ex
  exact ⟨r0, h1, fun Z xs H ds w Q' Q k n q kq => h2 Z xs H ds w Q' Q k n (hl _ _ _ q) kq⟩
theorem ca_i {X : Cx} {c : String} {f : Wd → PV → Bool} (R : TyRule c f) : CaD X (.builtin "isinstance") (cI c f) := ca_le ca_isi fun ds w Q h => by
  unfold cI at h
  split at h
  · obtain ⟨rfl, h1, h2⟩ := h
    obtain ⟨t, e1, e2⟩ := R.2 w _ h1
    exact ⟨t, e1, R.1, by rw [e2]; exact h2⟩
  · exact h.elim
theorem ca_i2 {X : Cx} {c1 c2 : String} {f1 f2 : Wd → PV → Bool} (R1 : TyRule c1 f1) (R2 : TyRule c2 f2) : CaD X (.builtin "isinstance") (cI2 c1 c2 f1 f2) := ca_le ca_isi fun ds w Q h => by
  unfold cI2 at h
  split at h
  · obtain ⟨⟨rfl, rfl⟩, h1, h2⟩ := h
    obtain ⟨t, e1, e2⟩ := R1.2 w _ h1
    obtain ⟨t', e3, e4⟩ := R2.2 w _ h1
    rw [e1] at e3; cases e3
    refine ⟨t, _, e1, rfl, by simp [R1.1, R2.1], ?_⟩
    simp only [List.any_cons, List.any_nil, Bool.or_false, e2, e4]
    exact h2
  · exact h.elim
/-- a loop, by what holds of the items to come -/
theorem for_ind {g : WG} {tb : WS} {E : WEnds} (I : List PV → Sl → Wd → Prop) (h0 : ∀ ρ w, I [] ρ w → E.nx ρ w)
    (hs : ∀ d r ρ w (N : Sl → Wd → Prop), (∀ ρ w, I r ρ w → N ρ w) → I (d :: r) ρ w → g d ρ w fun ρ1 w1 => tb { nx := N, rt := E.rt, bk := E.nx, ct := N } ρ1 w1) : ∀ ds ρ w, I ds ρ w → forD g tb E ds ρ w
  | [], ρ, w, h => h0 ρ w h
  | d :: r, ρ, w, h => hs d r ρ w _ (for_ind I h0 hs r) h
theorem comp_ind {g : WG} {tt : WT} {te : WE} {ρ : Sl} {k : List PV → Wd → Prop} (I : List PV → List PV → Wd → Prop) (h0 : ∀ acc w, I [] acc w → k acc w)
    (hs : ∀ d r acc w (N : List PV → Wd → Prop), (∀ acc w, I r acc w → N acc w) → I (d :: r) acc w → g d ρ w fun ρ1 w1 => tt ρ1 w1 fun b w2 => if b = true then te ρ1 w2 fun y w3 => N (acc ++ [y]) w3 else N acc w2) : ∀ ds acc w, I ds acc w → compD g tt te ρ k ds acc w
  | [], acc, w, h => h0 acc w h
  | d :: r, acc, w, h => hs d r acc w _ (comp_ind I h0 hs r) h
/-- [f(x) for x in xs], nothing changes -/
theorem comp_map {i : Nat} {te : WE} {ρ : Sl} {k : List PV → Wd → Prop} {w : Wd} (f : PV → PV) : ∀ (ds acc : List PV), (∀ d ∈ ds, ∀ Q : WQ, Q (f d) w → te (ρ.set i (some d)) w Q) → k (acc ++ ds.map f) w → compD (wName i) wYes te ρ k ds acc w
  | [], acc, _, h => by simpa [compD] using h
  | d :: r, acc, he, h => by
    simp only [compD, wName, wYes, if_true]
    refine he d (List.mem_cons_self) _ ?_
    exact comp_map f r _ (fun x hx => he x (List.mem_cons_of_mem _ hx)) (by simpa using h)
/-- [f(x) for x in xs if t(x)], nothing changes -/
theorem comp_filter {i : Nat} {tt : WT} {te : WE} {ρ : Sl} {k : List PV → Wd → Prop} {w : Wd} (p : PV → Bool) (f : PV → PV) : ∀ (ds acc : List PV), (∀ d ∈ ds, ∀ Q : Bool → Wd → Prop, Q (p d) w → tt (ρ.set i (some d)) w Q) → (∀ d ∈ ds, p d = true → ∀ Q : WQ, Q (f d) w → te (ρ.set i (some d)) w Q) → k (acc ++ (ds.filter p).map f) w → compD (wName i) tt te ρ k ds acc w
  | [], acc, _, _, h => by simpa [compD] using h
  | d :: r, acc, ht, he, h => by
    simp only [compD, wName]
    refine ht d (List.mem_cons_self) _ ?_
    cases e : p d with
    | true =>
      simp only [if_true]
      refine he d (List.mem_cons_self) e _ ?_
      exact comp_filter p f r _ (fun x hx => ht x (List.mem_cons_of_mem _ hx)) (fun x hx => he x (List.mem_cons_of_mem _ hx)) (by simpa [List.filter_cons, e] using h)
    | false =>
      simp only [Bool.false_eq_true, if_false]
      exact comp_filter p f r _ (fun x hx => ht x (List.mem_cons_of_mem _ hx)) (fun x hx => he x (List.mem_cons_of_mem _ hx)) (by simpa [List.filter_cons, e] using h)
theorem blsOf_map {α : Type} (f : α → Bool) : ∀ xs : List α, blsOf (xs.map fun x => PV.bl (f x)) = some (xs.map f)
  | [] => rfl
  | x :: r => by simp [blsOf, blsOf_map f r]
theorem atI_lt {α : Type} {xs : List α} {i : Int} (h0 : 0 ≤ i) (h1 : i < xs.length) : ∃ v, atI xs i = some v ∧ v ∈ xs := by
  have hl : i.toNat < xs.length := by omega
  have e : i = ((i.toNat : Nat) : Int) := by omega
  refine ⟨xs[i.toNat], ?_, List.getElem_mem hl⟩
  have q := atI_nat (xs := xs) (j := i.toNat) (v := xs[i.toNat]) (by simp [hl])
  rw [← e] at q
  exact q
end Pd

/-! items at written places -/
namespace Pd
open PySem L2

def onAt {α : Type} : List α → Nat → (α → Prop) → Prop
  | d :: _, 0, k => k d
  | _ :: r, n + 1, k => onAt r n k
  | [], _, _ => False
theorem onAt_at {α : Type} : ∀ {xs : List α} {n : Nat} {k : α → Prop}, onAt xs n k → ∃ d, xs[n]? = some d ∧ k d
  | d :: _, 0, _, h => ⟨d, rfl, h⟩
  | _ :: r, n + 1, k, h => by
    obtain ⟨d, h1, h2⟩ := onAt_at (xs := r) (n := n) (k := k) (by simpa [onAt] using h)
    exact ⟨d, by simpa using h1, h2⟩
  | [], _, _, h => by simp [onAt] at h
theorem onAt_of {α : Type} : ∀ {xs : List α} {n : Nat} {k : α → Prop} {d : α}, xs[n]? = some d → k d → onAt xs n k
  | [], _, _, _, h, _ => by simp at h
  | x :: r, 0, k, d, h, q => by
    have e : x = d := by simpa using h
    subst e; exact q
  | x :: r, n + 1, k, d, h, q => onAt_of (xs := r) (by simpa using h) q
def rIxC (n : Nat) (x : PV) (w1 : Wd) (Q : WQ) : Prop := match vw w1 x with
  | .lst ds => onAt ds n fun d => Q d w1
  | .tup ds => onAt ds n fun d => Q d w1
  | .scr ds => onAt ds n fun d => Q d w1
  | .str z => z.length ≤ sizeLine ∧ onAt z.cps.toList n fun c => Q (.str ⟨#[c]⟩) w1
  | _ => False
def wIxC (n : Nat) (ta : WE) : WE := fun ρ w Q => ta ρ w fun x w1 => rIxC n x w1 Q
section
variable {X : Cx} {a o e : Expr} {ta to te : WE} {pos cpos : Pos} {j : Nat}
theorem atI_on {K : Kz} {w : Wd} {H : Hp} {vs : List V} {ds : List PV} {n : Nat} {k : PV → Prop} (dn : DnAll K w H vs ds) (h : onAt ds n k) : ∃ v d, atI vs (n : Int) = some v ∧ Dn K w H v d ∧ k d := by
  obtain ⟨d, h1, h2⟩ := onAt_at h
  obtain ⟨v, h3, h4⟩ := dn.get h1
  exact ⟨v, d, atI_nat h3, h4, h2⟩
theorem de_ixc (n : Nat) {i : Int} (ha : DE X a ta) (hi : i = (n : Int) := by rfl) : DE X (.Subscript a (.Constant (.int i) j cpos) pos) (wIxC n ta) := by
  refine pe_le (pe_ix ix_seq ha (pe_int (X := X)) (fun _ _ => rfl)) fun σ H Q ⟨Z, ρ, w, Q', r, h, k⟩ => up1 r h fun x H1 d w1 e1 r1 n1 h1 => ?_
  show rIx X.K x (.int i) H1 Q
  subst hi
  unfold rIxC at h1
  split at h1
  · rename_i e
    obtain ⟨p, ys, rfl, hh, hn⟩ := vwL r1.wk n1 e
    obtain ⟨v, d, q1, q2, q3⟩ := atI_on hn h1
    exact .inl ⟨p, ys, _, v, rfl, rfl, SqL.of hh, q1, k _ _ (post_trans e1 (post_same r1.wk q2 q3))⟩
  · rename_i e
    obtain ⟨p, ys, rfl, hh, hn⟩ := vwT n1 e
    obtain ⟨v, d, q1, q2, q3⟩ := atI_on hn h1
    exact .inr (.inl ⟨p, ys, _, v, rfl, rfl, hh.sq, q1, k _ _ (post_trans e1 (post_same r1.wk q2 q3))⟩)
  · rename_i e
    obtain ⟨p, ys, rfl, hh, hn⟩ := vwZ n1 e
    obtain ⟨v, d, q1, q2, q3⟩ := atI_on hn h1
    exact .inl ⟨p, ys, _, v, rfl, rfl, hh.sq, q1, k _ _ (post_trans e1 (post_same r1.wk q2 q3))⟩
  · rename_i e
    cases vwS n1 e
    obtain ⟨c, q1, q2⟩ := onAt_at h1.2
    exact .inr (.inr ⟨_, _, c, rfl, rfl, h1.1, atI_nat q1, k _ _ (post_trans e1 (post_same r1.wk (.str _) q2))⟩)
  · exact h1.elim
/-- xs[n] = v at a written place -/
def rSubC (n : Nat) (d o : PV) (w1 : Wd) (Q : Wd → Prop) : Prop := match o with
  | .ref a => match w1 a with
    | some (.lst ds) => n < ds.length ∧ Q (wset w1 a (.lst (ds.set n d)))
    | _ => False
  | _ => False
def wgSubC (n : Nat) (to : WE) : WG := fun d ρ w Q => to ρ w fun o w1 => rSubC n d o w1 fun w2 => Q ρ w2
theorem dg_subc (n : Nat) {i : Int} (ho : DE X o to) (hi : i = (n : Int) := by rfl)
    (ha : ∀ v, assign (.Subscript o (.Constant (.int i) j cpos) pos) X.env v = (do
      let ov ← holding [v] (eval o X.env)
      let iv ← holding [v, ov] (eval (.Constant (.int i) j cpos) X.env)
      standAt pos
      holding [v, ov, iv] (setItem ov iv v)
      release [v, ov, iv] []) := by intro _; rfl) : DG X (.Subscript o (.Constant (.int i) j cpos) pos) (wgSubC n to) :=
  pg_le (pg_sub ho (pe_int (X := X)) set_list ha) fun v σ H Q ⟨Z, ρ, w, d, Q', r, dn, h, k⟩ => up1 r h fun ov H1 od w1 e1 r1 n1 h1 => by
    show rSetL ov (.int i) v H1 fun H3 => Q σ H3
    subst hi
    unfold rSubC at h1
    split at h1
    · split at h1
      · rename_i ds e
        cases n1
        cases r1.wk.at_ _ _ e with
        | @lst xs _ h3 h4 =>
          have ep : Ext w1 H1 (wset w1 _ (.lst (ds.set n d))) (upd H1 _ (.lst (xs.set n v))) := Ext.put e
          have hl := h1.1
          have hj : ixN xs.length ((n : Nat) : Int) = some n := by
            unfold ixN
            rw [h4.length, if_pos (by omega), if_pos (by omega)]
            simp
          refine ⟨_, _, _, n, rfl, rfl, h3, hj, k _ _ _ _ (e1.trans ep) (r1.ext ep ?_) h1.2⟩
          exact r1.wk.put e (.lst upd_same ((DnAll.set (dn.ext e1) n h4).ext ep))
      · exact h1.elim
    · exact h1.elim
end
end Pd

/-! a dict of constants that is asked at once; the module's own tuples -/
namespace Pd
open PySem L2
def aV : PV → V
  | .int i => .int i
  | .str x => .str x
  | .bl b => .bl b
  | _ => .non
def isAtm : PV → Bool
  | .int _ => true
  | .str _ => true
  | .bl _ => true
  | .non => true
  | _ => false
theorem aV_dn {K : Kz} {w : Wd} {H : Hp} : ∀ d : PV, isAtm d = true → Dn K w H (aV d) d
  | .int i, _ => .int i
  | .str x, _ => .str x
  | .bl b, _ => .bl b
  | .non, _ => .non
theorem aV_rel : ∀ d : PV, isAtm d = true → ∀ u, RelV (aV d) u → RelV (aV d) u := fun _ _ _ h => h
def valP (kvs : List (Key × PV)) (k : Key) : Option PV := (kvs.find? fun kv => decide (kv.1 = k)).map (·.2)
def onKey (y : PV) (N : Key → Prop) : Prop := match y with
  | .int i => N (.inl i)
  | .str x => N (.inr x)
  | _ => False
theorem onKey_at {K : Kz} {w : Wd} {H : Hp} {v : V} {y : PV} {N : Key → Prop} (n : Dn K w H v y) (h : onKey y N) : ∃ k, v = kV k ∧ N k := by
  cases n with
  | int i => exact ⟨.inl i, rfl, h⟩
  | str x => exact ⟨.inr x, rfl, h⟩
  | _ => exact h.elim
inductive DisC (X : Cx) : List (Option Expr) → List Expr → List (Key × PV) → Prop
  | nil : DisC X [] [] []
  | cons {k v : Expr} {kk : Key} {d : PV} {ks : List (Option Expr)} {vs : List Expr} {kvs : List (Key × PV)} : PE X k (tC (kV kk)) → PE X v (tC (aV d)) → isAtm d = true → DisC X ks vs kvs → DisC X (some k :: ks) (v :: vs) ((kk, d) :: kvs)
def kvV (kvs : List (Key × PV)) : List (Key × V) := kvs.map fun kv => (kv.1, aV kv.2)
theorem DisC.pps {X : Cx} {pos : Pos} {ks : List (Option Expr)} {vs : List Expr} {kvs : List (Key × PV)} (h : DisC X ks vs kvs) : PPs X pos ks vs (kvs.map fun kv => (tC (kV kv.1), tC (aV kv.2))) := by
  induction h with
  | nil => exact pps_nil
  | cons h1 h2 _ _ ih => exact pps_cons h1 h2 ih
theorem DisC.atm {X : Cx} {ks : List (Option Expr)} {vs : List Expr} {kvs : List (Key × PV)} (h : DisC X ks vs kvs) : ∀ kv ∈ kvs, isAtm kv.2 = true := by
  induction h with
  | nil => intro kv h; cases h
  | cons _ _ h3 _ ih =>
    intro kv h
    rcases List.mem_cons.mp h with e | h
    · subst e; exact h3
    · exact ih kv h
theorem DisC.len {X : Cx} {ks : List (Option Expr)} {vs : List Expr} {kvs : List (Key × PV)} (h : DisC X ks vs kvs) : ks.length = vs.length ∧ ks.length = kvs.length ∧ ks.all (·.isSome) = true := by
  induction h with
  | nil => exact ⟨rfl, rfl, rfl⟩
  | cons _ _ _ _ ih => exact ⟨by simp [ih.1], by simp [ih.2.1], by simpa using ih.2.2⟩
theorem tPairs_c : ∀ (kvs : List (Key × PV)) {σ : St} {H : Hp} {Q : List (V × V) → Hp → Prop}, Q ((kvV kvs).map fun kv => (kV kv.1, kv.2)) H → tPairs (kvs.map fun kv => (tC (kV kv.1), tC (aV kv.2))) σ H Q
  | [], _, _, _, h => h
  | kv :: r, _, _, Q, h => by
    show tPairs _ _ _ _
    exact tPairs_c r h
theorem valV_kvV (kvs : List (Key × PV)) (k : Key) : valV (kvV kvs) k = (valP kvs k).map aV := by
  unfold valV valP kvV
  rw [List.find?_map]
  simp only [Option.map_map]
  rfl
theorem valP_atm {kvs : List (Key × PV)} {k : Key} {d : PV} (h : ∀ kv ∈ kvs, isAtm kv.2 = true) (e : valP kvs k = some d) : isAtm d = true := by
  unfold valP at e
  obtain ⟨p, h1, h2⟩ := Option.map_eq_some_iff.mp e
  subst h2
  exact h p (List.mem_of_find?_eq_some h1)
def rGetC (kvs : List (Key × PV)) (y z : PV) (w : Wd) (Q : WQ) : Prop := onKey y fun k => Q ((valP kvs k).getD z) w
def wGetC (kvs : List (Key × PV)) (te tf : WE) : WE := fun ρ w Q => te ρ w fun y w1 => tf ρ w1 fun z w2 => rGetC kvs y z w2 Q
def rIxD (kvs : List (Key × PV)) (y : PV) (w : Wd) (Q : WQ) : Prop := onKey y fun k => ∃ d, valP kvs k = some d ∧ Q d w
def wIxD (kvs : List (Key × PV)) (te : WE) : WE := fun ρ w Q => te ρ w fun y w1 => rIxD kvs y w1 Q
section
variable {X : Cx} {e f : Expr} {te tf : WE} {pos apos cpos : Pos} {keys : List (Option Expr)} {values : List Expr} {kvs : List (Key × PV)}
theorem de_getC (hu : X.A.units + 64 < cLine) (hd : DisC X keys values kvs) (he : DE X e te) (hf : DE X f tf) (h0 : keys ≠ [] := by exact fun z => nomatch z) (h15 : keys.length ≤ 15 := by decide) (hm : mergeK [] (kvV kvs) = kvV kvs := by rfl)
    (hbase : attributeBase (.Dict keys values pos) "get" X.env (eval (.Dict keys values pos) X.env) = eval (.Dict keys values pos) X.env := by rfl)
    (hfew : ((backTo cpos (starEach [e, f] X.env)).all (fun x => !x.1) && (backToKw cpos (keywordEach [] X.env)).all (fun x => x.1.isSome) && decide (([e, f] : List Expr).length + ([] : List Keyword).length + (if ([] : List Keyword).isEmpty then 0 else 1) < 30)) = true := by rfl)
    (hline : (apos.endLine == cpos.line) = true := by rfl) (htr : backTo cpos (starEach [e, f] X.env) = [(false, eval e X.env), (false, eval f X.env)] := by rfl) :
    DE X (.Call (.Attribute (.Dict keys values pos) "get" apos) [e, f] [] cpos) (wGetC kvs te tf) := by
  refine pe_le (pe_dget2 (by omega) (pe_disp hd.pps hd.len.2.2 hd.len.1 h0 h15) he hf ⟨hbase, hfew, hline, htr⟩) fun σ H Q ⟨Z, ρ, w, Q', r, h, k⟩ => ?_
  intro p hp
  refine tPairs_c kvs ⟨upd_same, kvV kvs, rfl, by rw [show (kvV kvs).length = kvs.length from List.length_map _, ← hd.len.2.1]; exact h15, ?_⟩
  rw [upd_upd, hm]
  refine ⟨p, rfl, .inl ⟨_, .inl upd_same⟩, ?_⟩
  have r0 := r.ext (Ext.new r.wk hp) (r.wk.new (o := .dK (kvV kvs)) hp)
  refine up1 r0 h fun y H2 dy w1 e1 r1 n1 h1 => up1 r1 h1 fun z H3 dz w2 e2 r2 n2 h2 => ?_
  obtain ⟨kk, rfl, q⟩ := onKey_at (n1.ext e2) h2
  have hH3 : H3 p = some (.dK (kvV kvs)) := ((e1.trans e2) p _ (r.wk.off hp) upd_same).2
  refine ⟨_, DGet.k hH3, k _ _ (post_trans ((Ext.new r.wk hp).trans (e1.trans e2)) (post_same r2.wk ?_ q))⟩
  rw [valV_kvV]
  cases ev : valP kvs kk with
  | none => exact n2
  | some d => exact aV_dn d (valP_atm hd.atm ev)
theorem de_ixD (hu : X.A.units + 64 < cLine) (hd : DisC X keys values kvs) (he : DE X e te) (hs : NoSl e) (h0 : keys ≠ [] := by exact fun z => nomatch z) (h15 : keys.length ≤ 15 := by decide) (hm : mergeK [] (kvV kvs) = kvV kvs := by rfl) :
    DE X (.Subscript (.Dict keys values pos) e cpos) (wIxD kvs te) := by
  refine pe_le (pe_dget (by omega) (pe_disp hd.pps hd.len.2.2 hd.len.1 h0 h15) he hs) fun σ H Q ⟨Z, ρ, w, Q', r, h, k⟩ => ?_
  intro p hp
  refine tPairs_c kvs ⟨upd_same, kvV kvs, rfl, by rw [show (kvV kvs).length = kvs.length from List.length_map _, ← hd.len.2.1]; exact h15, ?_⟩
  rw [upd_upd, hm]
  have r0 := r.ext (Ext.new r.wk hp) (r.wk.new (o := .dK (kvV kvs)) hp)
  refine up1 r0 h fun y H2 dy w1 e1 r1 n1 h1 => ?_
  obtain ⟨kk, rfl, d, hd', q⟩ := onKey_at n1 h1
  have hH3 : H2 p = some (.dK (kvV kvs)) := (e1 p _ (r.wk.off hp) upd_same).2
  refine ⟨p, aV d, rfl, ?_, k _ _ (post_trans ((Ext.new r.wk hp).trans e1) (post_same r1.wk (aV_dn d (valP_atm hd.atm hd')) q))⟩
  have := DGet.k (k := kk) hH3
  rwa [valV_kvV, hd'] at this
end
/-- a tuple of the module -/
theorem gt_mk {K : Frag} {h : Heap} {mg : Str → Option Value} {x : Str} {a : Addr} {od : Option Addr} {its : Array Value} {n : Nat} {sl : Array (Option Value)} {ds : List PV} (X : K.In h) (G : h.Ns mainGlobals mg)
    (g : PySem.W.nsIn K mainGlobals x = some (some (.ref a))) (l : K.lookup a = some ⟨.type "tuple", od, .seq its n, sl⟩) (hz : its.size ≤ sizeLine) (hv : Vals (ds.map aV) its.toList) (ha : ∀ d ∈ ds, isAtm d = true) : GT K mg x ds := by
  refine ⟨a, _, PySem.W.mg_of X G g, ⟨_, its, n, l, rfl, rfl, hz, hv⟩, fun P W Z w H => ?_⟩
  induction ds generalizing its with
  | nil => exact .nil
  | cons d r ih =>
    have aux : ∀ ds : List PV, (∀ d ∈ ds, isAtm d = true) → DnAll ⟨⟨P, W, K⟩, Z⟩ w H (ds.map aV) ds := by
      intro ds
      induction ds with
      | nil => intro _; exact .nil
      | cons d r ih => intro h; exact .cons (aV_dn d (h d (List.mem_cons_self ..))) (ih fun d h' => h d (List.mem_cons_of_mem _ h'))
    exact aux _ ha
section
variable {ρ : Sl} {w : Wd} {Q : WQ} {te tf : WE} {kvs : List (Key × PV)} {z : PV} {s : Str} {i : Int}
theorem x_getC (h : te ρ w fun y w1 => tf ρ w1 fun z w2 => rGetC kvs y z w2 Q) : wGetC kvs te tf ρ w Q := h
theorem x_rgetS (h : Q ((valP kvs (.inr s)).getD z) w) : rGetC kvs (.str s) z w Q := h
theorem x_rgetI (h : Q ((valP kvs (.inl i)).getD z) w) : rGetC kvs (.int i) z w Q := h
theorem x_ixD (h : te ρ w fun y w1 => rIxD kvs y w1 Q) : wIxD kvs te ρ w Q := h
end
end Pd

/-! a chain of three comparisons; a, b = x, y -/
namespace L2
open PySem PySem.Spec PyProof.Rows
def tChain3 (r r' r'' : R2) (ta tb tc td : TE) : TE := fun σ H Q => ta σ H fun x H1 => tb σ H1 fun y H2 => r x y H2 fun z H3 => ∃ k, z = .bl k ∧
  (if k = true then tc σ H3 fun u H4 => r' y u H4 fun z' H5 => ∃ k', z' = .bl k' ∧ (if k' = true then td σ H5 fun v H6 => r'' u v H6 Q else Q (.bl false) H5) else Q (.bl false) H3)
theorem pe_chain3 {X : Cx} {a b c d : Expr} {ta tb tc td : TE} {pos : Pos} {op op' op'' : CmpOp} {r r' r'' : R2} (ho : OpR X (compareOp op) r) (ho' : OpR X (compareOp op') r') (ho'' : OpR X (compareOp op'') r'') (ha : PE X a ta) (hb : PE X b tb) (hc : PE X c tc) (hd : PE X d td)
    (hm : lastMarks [op, op', op''] [b, c, d] = false := by with_unfolding_all rfl) : PE X (.Compare a [op, op', op''] [b, c, d] pos) (tChain3 r r' r'' ta tb tc td) := by
  refine ⟨fun pins s σ H Q I h => ?_⟩
  refine Compare_chain (thn (ha.run pins s σ H _ I h) fun v s1 ⟨x, H1, I1, r1, q1⟩ => chain_link (thn (hb.run pins s1 σ H1 _ I1 q1) fun u s2 ⟨y, H2, I2, r2, q2⟩ =>
    thn (ho pins s2 σ H2 x y v u _ I2 r1 r2 q2) fun d s3 ⟨z, H3, I3, r3, k, e, q3⟩ => ?_)) hm
  subst e
  cases r3
  refine wpAny_truthy_bool ?_
  cases k with
  | false => exact ite_ff ⟨.bl false, H3, I3, rfl, q3⟩
  | true =>
    refine ite_tt (chain_link (thn (hc.run pins s3 σ H3 _ I3 q3) fun w' s4 ⟨z', H4, I4, r4, q4⟩ => thn (ho' pins s4 σ H4 y z' u w' _ I4 r2 r4 q4) fun d' s5 ⟨z5, H5, I5, r5, k5, e5, q5⟩ => ?_))
    subst e5
    cases r5
    refine wpAny_truthy_bool ?_
    cases k5 with
    | false => exact ite_ff ⟨.bl false, H5, I5, rfl, q5⟩
    | true => exact ite_tt (chain_last (thn (hd.run pins s5 σ H5 _ I5 q5) fun w6 s6 ⟨z6, H6, I6, r6, q6⟩ => ho'' pins s6 σ H6 z' z6 w' w6 Q I6 r4 r6 q6))
end L2
namespace Pd
open PySem L2
def wChain3 (r r' r'' : R2D) (ta tb tc td : WE) : WE := fun ρ w Q => ta ρ w fun x w1 => tb ρ w1 fun y w2 => r x y w2 fun z w3 => onB z fun k => if k = true then
  (tc ρ w3 fun u w4 => r' y u w4 fun z' w5 => onB z' fun k' => if k' = true then td ρ w5 fun v w6 => r'' u v w6 Q else Q (.bl false) w5) else Q (.bl false) w3
section
variable {X : Cx} {a b c d : Expr} {ta tb tc td : WE} {pos : Pos}
theorem de_chain3 {op op' op'' : CmpOp} {rD rD' rD'' : R2D} (c1 : CmD X op rD) (c2 : CmD X op' rD') (c3 : CmD X op'' rD'') (ha : DE X a ta) (hb : DE X b tb) (hc : DE X c tc) (hd : DE X d td)
    (hm : lastMarks [op, op', op''] [b, c, d] = false := by with_unfolding_all rfl) : DE X (.Compare a [op, op', op''] [b, c, d] pos) (wChain3 rD rD' rD'' ta tb tc td) := by
  obtain ⟨r, ho, hl⟩ := c1.ex
  obtain ⟨r', ho', hl'⟩ := c2.ex
  obtain ⟨r'', ho'', hl''⟩ := c3.ex
  refine pe_le (pe_chain3 ho ho' ho'' ha hb hc hd hm) fun σ H Q ⟨Z, ρ, w, Q', r0, h, k⟩ => ?_
  refine up1 r0 h fun x H1 dx w1 e1 r1 n1 h1 => ?_
  refine up1 r1 h1 fun y H2 dy w2 e2 r2 n2 h2 => ?_
  refine hl Z x y H2 dx dy w2 _ _ r2.wk (n1.ext e2) n2 h2 fun z H3 ⟨dz, w3, e3, k3, n3, h3⟩ => ?_
  have r3 := r2.ext e3 k3
  obtain ⟨kb, rfl, rfl, h3⟩ := onB_of n3 h3
  refine ⟨kb, rfl, ?_⟩
  cases kb with
  | true =>
    refine iteT (up1 r3 h3 fun u H4 du w4 e4 r4 n4 h4 => ?_)
    refine hl' Z y u H4 dy du w4 _ _ r4.wk ((n2.ext e3).ext e4) n4 h4 fun z' H5 ⟨dz', w5, e5, k5, n5, h5⟩ => ?_
    have r5 := r4.ext e5 k5
    obtain ⟨kb', rfl, rfl, h5⟩ := onB_of n5 h5
    refine ⟨kb', rfl, ?_⟩
    cases kb' with
    | true =>
      refine iteT (up1 r5 h5 fun v H6 dv w6 e6 r6 n6 h6 => ?_)
      exact hl'' Z u v H6 du dv w6 _ _ r6.wk ((n4.ext e5).ext e6) n6 h6 fun v' H7 p => k v' H7 (post_trans (e1.trans (e2.trans (e3.trans (e4.trans (e5.trans e6))))) p)
    | false => exact iteF (k _ _ (post_trans (e1.trans (e2.trans (e3.trans (e4.trans e5)))) (post_same r5.wk (.bl false) h5)))
  | false => exact iteF (k _ _ (post_trans (e1.trans (e2.trans e3)) (post_same r3.wk (.bl false) h3)))
def wPar (i j : Nat) (t : WA) : WS := fun D ρ w => t ρ w fun ds w1 => match ds with
  | [x, y] => D.nx ((ρ.set i (some x)).set j (some y)) w1
  | _ => False
def wPar3 (i j l : Nat) (t : WA) : WS := fun D ρ w => t ρ w fun ds w1 => match ds with
  | [x, y, z] => D.nx (((ρ.set i (some x)).set j (some y)).set l (some z)) w1
  | _ => False
theorem ds_par {i j : Nat} {x y : Str} {t : WA} {px py pt : Pos} {kt k2 pt2} (hc : X.calm = true) (hN : X.N.Nodup) (hi : X.N[i]? = some x) (hj : X.N[j]? = some y) (hij : i ≠ j)
    (hx : X.env.scope.names.lookup x = some .local) (hy : X.env.scope.names.lookup y = some .local) (ha : DA X [a, b] t)
    (hw : swappedStores [.Tuple [.Name x px, .Name y py] kt pt] (.Tuple [a, b] k2 pt2) X.env = pure (some [x, y]) := by rfl)
    (hs : swapsWithSole [.Tuple [.Name x px, .Name y py] kt pt] (.Tuple [a, b] k2 pt2) pos.line X.env = pure false := by rfl) :
    DS X (.Assign [.Tuple [.Name x px, .Name y py] kt pt] (.Tuple [a, b] k2 pt2) pos) (wPar i j t) :=
  ps_le (ps_par hc hN hi hj hij hx hy ha hw hs) fun D σ H ⟨Z, ρ, w, E, r, h, k⟩ => upA1 r h fun vs H1 ds w1 e1 r1 n h1 => by
    match ds, n, h1 with
    | [d1, d2], .cons n1 (.cons n2 .nil), h1 => exact ⟨_, _, rfl, k.nx _ _ _ _ e1 ((r1.set n1 i).set n2 j) h1⟩
theorem ds_par3 {i j l : Nat} {x y z : Str} {t : WA} {px py pz pt : Pos} {kt k2 pt2} (hc : X.calm = true) (hN : X.N.Nodup) (hi : X.N[i]? = some x) (hj : X.N[j]? = some y) (hl : X.N[l]? = some z) (hij : i ≠ j) (hil : i ≠ l) (hjl : j ≠ l)
    (hx : X.env.scope.names.lookup x = some .local) (hy : X.env.scope.names.lookup y = some .local) (hz : X.env.scope.names.lookup z = some .local) (ha : DA X [a, b, c] t)
    (hw : swappedStores [.Tuple [.Name x px, .Name y py, .Name z pz] kt pt] (.Tuple [a, b, c] k2 pt2) X.env = pure (some [x, y, z]) := by rfl)
    (hs : swapsWithSole [.Tuple [.Name x px, .Name y py, .Name z pz] kt pt] (.Tuple [a, b, c] k2 pt2) pos.line X.env = pure false := by rfl) :
    DS X (.Assign [.Tuple [.Name x px, .Name y py, .Name z pz] kt pt] (.Tuple [a, b, c] k2 pt2) pos) (wPar3 i j l t) :=
  ps_le (ps_par3 hc hN hi hj hl hij hil hjl hx hy hz ha hw hs) fun D σ H ⟨Z, ρ, w, E, r, h, k⟩ => upA1 r h fun vs H1 ds w1 e1 r1 n h1 => by
    match ds, n, h1 with
    | [d1, d2, d3], .cons n1 (.cons n2 (.cons n3 .nil)), h1 => exact ⟨_, _, _, rfl, k.nx _ _ _ _ e1 (((r1.set n1 i).set n2 j).set n3 l) h1⟩
end
section
variable {ρ : Sl} {w : Wd} {Q : WQ} {D : WEnds} {ta tb tc td : WE} {TA : WA} {r r' r'' : R2D} {x y z : PV} {i j l : Nat}
theorem x_chain3 (h : ta ρ w fun x w1 => tb ρ w1 fun y w2 => r x y w2 fun z w3 => onB z fun k => if k = true then
  (tc ρ w3 fun u w4 => r' y u w4 fun z' w5 => onB z' fun k' => if k' = true then td ρ w5 fun v w6 => r'' u v w6 Q else Q (.bl false) w5) else Q (.bl false) w3) : wChain3 r r' r'' ta tb tc td ρ w Q := h
def onPar (i j : Nat) (D : WEnds) (ρ : Sl) (ds : List PV) (w1 : Wd) : Prop := match ds with
  | [x, y] => D.nx ((ρ.set i (some x)).set j (some y)) w1
  | _ => False
def onPar3 (i j l : Nat) (D : WEnds) (ρ : Sl) (ds : List PV) (w1 : Wd) : Prop := match ds with
  | [x, y, z] => D.nx (((ρ.set i (some x)).set j (some y)).set l (some z)) w1
  | _ => False
theorem x_par (h : TA ρ w fun ds w1 => onPar i j D ρ ds w1) : wPar i j TA D ρ w := h
theorem x_par3 (h : TA ρ w fun ds w1 => onPar3 i j l D ρ ds w1) : wPar3 i j l TA D ρ w := h
theorem x_onPar (h : D.nx ((ρ.set i (some x)).set j (some y)) w) : onPar i j D ρ [x, y] w := h
theorem x_onPar3 (h : D.nx (((ρ.set i (some x)).set j (some y)).set l (some z)) w) : onPar3 i j l D ρ [x, y, z] w := h
end
end Pd

/-! going through a reading, step by step -/
namespace Pd
open PySem L2
section
variable {ρ : Sl} {w : Wd} {Q : WQ} {D : WEnds} {t u : WS} {te ta tb tc : WE} {tA tB : WT} {TA : WA} {g : WG} {r r' : R2D} {p : PSp} {rc : RcD} {d x y : PV} {ds es xs : List PV} {i j : Int} {n k : Nat} {a : Addr} {s z : Str} {b : Bool} {wi : WI} {tl th : WO} {vs : List Nat} {A B : Prop}
theorem x_seq (h : t { nx := u D, rt := D.rt, bk := D.bk, ct := D.ct } ρ w) : wSeq2 t u D ρ w := h
theorem x_next (h : D.nx ρ w) : wNext D ρ w := h
theorem x_break (h : D.bk ρ w) : wBreak D ρ w := h
theorem x_cont (h : D.ct ρ w) : wCont D ρ w := h
theorem x_asg (h : te ρ w fun x w1 => g x ρ w1 D.nx) : wAsg te g D ρ w := h
theorem x_drop (h : te ρ w fun _ w1 => D.nx ρ w1) : wDrop te D ρ w := h
theorem x_ret (h : te ρ w D.rt) : wRet te D ρ w := h
theorem x_retN (h : D.rt .non w) : wRetN D ρ w := h
theorem x_if (h : tA ρ w fun b w1 => if b = true then t D ρ w1 else u D ρ w1) : wIf tA t u D ρ w := h
theorem x_for {wb : WS} (h : wi ρ w fun ds w1 => forD g wb D ds ρ w1) : wFor wi g wb D ρ w := h
theorem x_name {N : Sl → Wd → Prop} (h : N (ρ.set n (some d)) w) : wName n d ρ w N := h
theorem x_gtup {N : Sl → Wd → Prop} {gs : WGs} (hl : ds.length = n) (h : gs ds ρ w N) : wgTup n gs (.tup ds) ρ w N := ⟨hl, h⟩
theorem x_gcons {N : Sl → Wd → Prop} {gs : WGs} (h : g d ρ w fun ρ' w' => gs ds ρ' w' N) : wgCons g gs (d :: ds) ρ w N := h
theorem x_gnil {N : Sl → Wd → Prop} (h : N ρ w) : wgNil [] ρ w N := h
theorem x_gsubc {N : Sl → Wd → Prop} (h : te ρ w fun o w1 => rSubC n d o w1 fun w2 => N ρ w2) : wgSubC n te d ρ w N := h
theorem x_rsubc {N : Wd → Prop} (hw : w a = some (.lst ds)) (hl : n < ds.length) (h : N (wset w a (.lst (ds.set n d)))) : rSubC n d (.ref a) w N := by
  unfold rSubC; simp only [hw]; exact ⟨hl, h⟩
theorem x_var (e : ρ[n]? = some (some d)) (h : Q d w) : wVar n ρ w Q := by
  unfold wVar getS; simp only [e]; exact h
theorem x_v0 {r : Sl} (h : Q d w) : wVar 0 (some d :: r) w Q := h
theorem x_v1 {o0 : Option PV} {r : Sl} (h : Q d w) : wVar 1 (o0 :: some d :: r) w Q := h
theorem x_v2 {o0 o1 : Option PV} {r : Sl} (h : Q d w) : wVar 2 (o0 :: o1 :: some d :: r) w Q := h
theorem x_v3 {o0 o1 o2 : Option PV} {r : Sl} (h : Q d w) : wVar 3 (o0 :: o1 :: o2 :: some d :: r) w Q := h
theorem x_v4 {o0 o1 o2 o3 : Option PV} {r : Sl} (h : Q d w) : wVar 4 (o0 :: o1 :: o2 :: o3 :: some d :: r) w Q := h
theorem x_v5 {o0 o1 o2 o3 o4 : Option PV} {r : Sl} (h : Q d w) : wVar 5 (o0 :: o1 :: o2 :: o3 :: o4 :: some d :: r) w Q := h
theorem x_v6 {o0 o1 o2 o3 o4 o5 : Option PV} {r : Sl} (h : Q d w) : wVar 6 (o0 :: o1 :: o2 :: o3 :: o4 :: o5 :: some d :: r) w Q := h
theorem x_v7 {o0 o1 o2 o3 o4 o5 o6 : Option PV} {r : Sl} (h : Q d w) : wVar 7 (o0 :: o1 :: o2 :: o3 :: o4 :: o5 :: o6 :: some d :: r) w Q := h
theorem x_v8 {o0 o1 o2 o3 o4 o5 o6 o7 : Option PV} {r : Sl} (h : Q d w) : wVar 8 (o0 :: o1 :: o2 :: o3 :: o4 :: o5 :: o6 :: o7 :: some d :: r) w Q := h
theorem x_v9 {o0 o1 o2 o3 o4 o5 o6 o7 o8 : Option PV} {r : Sl} (h : Q d w) : wVar 9 (o0 :: o1 :: o2 :: o3 :: o4 :: o5 :: o6 :: o7 :: o8 :: some d :: r) w Q := h
theorem x_v10 {o0 o1 o2 o3 o4 o5 o6 o7 o8 o9 : Option PV} {r : Sl} (h : Q d w) : wVar 10 (o0 :: o1 :: o2 :: o3 :: o4 :: o5 :: o6 :: o7 :: o8 :: o9 :: some d :: r) w Q := h
theorem x_v11 {o0 o1 o2 o3 o4 o5 o6 o7 o8 o9 o10 : Option PV} {r : Sl} (h : Q d w) : wVar 11 (o0 :: o1 :: o2 :: o3 :: o4 :: o5 :: o6 :: o7 :: o8 :: o9 :: o10 :: some d :: r) w Q := h
theorem x_v12 {o0 o1 o2 o3 o4 o5 o6 o7 o8 o9 o10 o11 : Option PV} {r : Sl} (h : Q d w) : wVar 12 (o0 :: o1 :: o2 :: o3 :: o4 :: o5 :: o6 :: o7 :: o8 :: o9 :: o10 :: o11 :: some d :: r) w Q := h
theorem x_v13 {o0 o1 o2 o3 o4 o5 o6 o7 o8 o9 o10 o11 o12 : Option PV} {r : Sl} (h : Q d w) : wVar 13 (o0 :: o1 :: o2 :: o3 :: o4 :: o5 :: o6 :: o7 :: o8 :: o9 :: o10 :: o11 :: o12 :: some d :: r) w Q := h
theorem x_v14 {o0 o1 o2 o3 o4 o5 o6 o7 o8 o9 o10 o11 o12 o13 : Option PV} {r : Sl} (h : Q d w) : wVar 14 (o0 :: o1 :: o2 :: o3 :: o4 :: o5 :: o6 :: o7 :: o8 :: o9 :: o10 :: o11 :: o12 :: o13 :: some d :: r) w Q := h
theorem x_v15 {o0 o1 o2 o3 o4 o5 o6 o7 o8 o9 o10 o11 o12 o13 o14 : Option PV} {r : Sl} (h : Q d w) : wVar 15 (o0 :: o1 :: o2 :: o3 :: o4 :: o5 :: o6 :: o7 :: o8 :: o9 :: o10 :: o11 :: o12 :: o13 :: o14 :: some d :: r) w Q := h
theorem x_v16 {o0 o1 o2 o3 o4 o5 o6 o7 o8 o9 o10 o11 o12 o13 o14 o15 : Option PV} {r : Sl} (h : Q d w) : wVar 16 (o0 :: o1 :: o2 :: o3 :: o4 :: o5 :: o6 :: o7 :: o8 :: o9 :: o10 :: o11 :: o12 :: o13 :: o14 :: o15 :: some d :: r) w Q := h
theorem x_v17 {o0 o1 o2 o3 o4 o5 o6 o7 o8 o9 o10 o11 o12 o13 o14 o15 o16 : Option PV} {r : Sl} (h : Q d w) : wVar 17 (o0 :: o1 :: o2 :: o3 :: o4 :: o5 :: o6 :: o7 :: o8 :: o9 :: o10 :: o11 :: o12 :: o13 :: o14 :: o15 :: o16 :: some d :: r) w Q := h
theorem x_v18 {o0 o1 o2 o3 o4 o5 o6 o7 o8 o9 o10 o11 o12 o13 o14 o15 o16 o17 : Option PV} {r : Sl} (h : Q d w) : wVar 18 (o0 :: o1 :: o2 :: o3 :: o4 :: o5 :: o6 :: o7 :: o8 :: o9 :: o10 :: o11 :: o12 :: o13 :: o14 :: o15 :: o16 :: o17 :: some d :: r) w Q := h
theorem x_v19 {o0 o1 o2 o3 o4 o5 o6 o7 o8 o9 o10 o11 o12 o13 o14 o15 o16 o17 o18 : Option PV} {r : Sl} (h : Q d w) : wVar 19 (o0 :: o1 :: o2 :: o3 :: o4 :: o5 :: o6 :: o7 :: o8 :: o9 :: o10 :: o11 :: o12 :: o13 :: o14 :: o15 :: o16 :: o17 :: o18 :: some d :: r) w Q := h
theorem x_v20 {o0 o1 o2 o3 o4 o5 o6 o7 o8 o9 o10 o11 o12 o13 o14 o15 o16 o17 o18 o19 : Option PV} {r : Sl} (h : Q d w) : wVar 20 (o0 :: o1 :: o2 :: o3 :: o4 :: o5 :: o6 :: o7 :: o8 :: o9 :: o10 :: o11 :: o12 :: o13 :: o14 :: o15 :: o16 :: o17 :: o18 :: o19 :: some d :: r) w Q := h
theorem x_v21 {o0 o1 o2 o3 o4 o5 o6 o7 o8 o9 o10 o11 o12 o13 o14 o15 o16 o17 o18 o19 o20 : Option PV} {r : Sl} (h : Q d w) : wVar 21 (o0 :: o1 :: o2 :: o3 :: o4 :: o5 :: o6 :: o7 :: o8 :: o9 :: o10 :: o11 :: o12 :: o13 :: o14 :: o15 :: o16 :: o17 :: o18 :: o19 :: o20 :: some d :: r) w Q := h
theorem x_v22 {o0 o1 o2 o3 o4 o5 o6 o7 o8 o9 o10 o11 o12 o13 o14 o15 o16 o17 o18 o19 o20 o21 : Option PV} {r : Sl} (h : Q d w) : wVar 22 (o0 :: o1 :: o2 :: o3 :: o4 :: o5 :: o6 :: o7 :: o8 :: o9 :: o10 :: o11 :: o12 :: o13 :: o14 :: o15 :: o16 :: o17 :: o18 :: o19 :: o20 :: o21 :: some d :: r) w Q := h
theorem x_v23 {o0 o1 o2 o3 o4 o5 o6 o7 o8 o9 o10 o11 o12 o13 o14 o15 o16 o17 o18 o19 o20 o21 o22 : Option PV} {r : Sl} (h : Q d w) : wVar 23 (o0 :: o1 :: o2 :: o3 :: o4 :: o5 :: o6 :: o7 :: o8 :: o9 :: o10 :: o11 :: o12 :: o13 :: o14 :: o15 :: o16 :: o17 :: o18 :: o19 :: o20 :: o21 :: o22 :: some d :: r) w Q := h
theorem x_v24 {o0 o1 o2 o3 o4 o5 o6 o7 o8 o9 o10 o11 o12 o13 o14 o15 o16 o17 o18 o19 o20 o21 o22 o23 : Option PV} {r : Sl} (h : Q d w) : wVar 24 (o0 :: o1 :: o2 :: o3 :: o4 :: o5 :: o6 :: o7 :: o8 :: o9 :: o10 :: o11 :: o12 :: o13 :: o14 :: o15 :: o16 :: o17 :: o18 :: o19 :: o20 :: o21 :: o22 :: o23 :: some d :: r) w Q := h
theorem x_v25 {o0 o1 o2 o3 o4 o5 o6 o7 o8 o9 o10 o11 o12 o13 o14 o15 o16 o17 o18 o19 o20 o21 o22 o23 o24 : Option PV} {r : Sl} (h : Q d w) : wVar 25 (o0 :: o1 :: o2 :: o3 :: o4 :: o5 :: o6 :: o7 :: o8 :: o9 :: o10 :: o11 :: o12 :: o13 :: o14 :: o15 :: o16 :: o17 :: o18 :: o19 :: o20 :: o21 :: o22 :: o23 :: o24 :: some d :: r) w Q := h
theorem x_c (h : Q d w) : wC d ρ w Q := h
theorem x_op (h : ta ρ w fun x w1 => tb ρ w1 fun y w2 => r x y w2 Q) : wOp r ta tb ρ w Q := h
theorem x_andV (h : ta ρ w fun x w1 => onB x fun c => if c = true then tb ρ w1 Q else Q (.bl false) w1) : wAndV ta tb ρ w Q := h
theorem x_orV (h : ta ρ w fun x w1 => onB x fun c => if c = true then Q (.bl true) w1 else tb ρ w1 Q) : wOrV ta tb ρ w Q := h
theorem x_notV (h : ta ρ w fun x w1 => onB x fun c => Q (.bl (!c)) w1) : wNotV ta ρ w Q := h
theorem x_ifE (h : tA ρ w fun c w1 => if c = true then ta ρ w1 Q else tb ρ w1 Q) : wIfE tA ta tb ρ w Q := h
theorem x_neg (h : ta ρ w fun x w1 => rNeg x w1 Q) : wNeg ta ρ w Q := h
theorem x_rneg (h : Q (.int (-i)) w) : rNeg (.int i) w Q := h
theorem x_chain (h : ta ρ w fun x w1 => tb ρ w1 fun y w2 => r x y w2 fun z w3 => onB z fun k => if k = true then tc ρ w3 fun u w4 => r' y u w4 Q else Q (.bl false) w3) : wChain r r' ta tb tc ρ w Q := h
theorem x_tup (h : TA ρ w fun xs w1 => xs.length ≤ sizeLine ∧ Q (.tup xs) w1) : wTup TA ρ w Q := h
theorem x_lst (h : TA ρ w fun xs w1 => xs.length ≤ sizeLine ∧ Q (.lst xs) w1) : wLst TA ρ w Q := h
theorem x_mlst (h : TA ρ w fun xs w1 => xs.length ≤ sizeLine ∧ ∀ p, w1 p = none → Q (.ref p) (wset w1 p (.lst xs))) : wMLst TA ρ w Q := h
theorem x_cons {N : List PV → Wd → Prop} (h : ta ρ w fun x w1 => TA ρ w1 fun xs w2 => N (x :: xs) w2) : wCons ta TA ρ w N := h
theorem x_nil {N : List PV → Wd → Prop} (h : N [] w) : wNil ρ w N := h
theorem x_cb (h : TA ρ w fun ds w1 => rc ds w1 Q) : wCB rc TA ρ w Q := h
theorem x_call (h : TA ρ w fun ds w1 => p ds w1 Q) : wCall p TA ρ w Q := h
theorem x_ixc (h : ta ρ w fun x w1 => rIxC n x w1 Q) : wIxC n ta ρ w Q := h
theorem x_rixl (h : onAt ds n fun d => Q d w) : rIxC n (.lst ds) w Q := h
theorem x_rixt (h : onAt ds n fun d => Q d w) : rIxC n (.tup ds) w Q := h
theorem x_rixz (h : onAt ds n fun d => Q d w) : rIxC n (.scr ds) w Q := h
theorem x_rixr (hw : w a = some (.lst ds)) (h : onAt ds n fun d => Q d w) : rIxC n (.ref a) w Q := by unfold rIxC; simp only [vw, hw]; exact h
theorem x_at {α : Type} {xs : List α} {c : α} {N : α → Prop} (e : xs[n]? = some c) (h : N c) : onAt xs n N := onAt_of e h
theorem x_at0 {α : Type} {c0 : α} {r : List α} {N : α → Prop} (h : N c0) : onAt (c0 :: r) 0 N := h
theorem x_at1 {α : Type} {c0 c1 : α} {r : List α} {N : α → Prop} (h : N c1) : onAt (c0 :: c1 :: r) 1 N := h
theorem x_at2 {α : Type} {c0 c1 c2 : α} {r : List α} {N : α → Prop} (h : N c2) : onAt (c0 :: c1 :: c2 :: r) 2 N := h
theorem x_at3 {α : Type} {c0 c1 c2 c3 : α} {r : List α} {N : α → Prop} (h : N c3) : onAt (c0 :: c1 :: c2 :: c3 :: r) 3 N := h
theorem x_at4 {α : Type} {c0 c1 c2 c3 c4 : α} {r : List α} {N : α → Prop} (h : N c4) : onAt (c0 :: c1 :: c2 :: c3 :: c4 :: r) 4 N := h
theorem x_at5 {α : Type} {c0 c1 c2 c3 c4 c5 : α} {r : List α} {N : α → Prop} (h : N c5) : onAt (c0 :: c1 :: c2 :: c3 :: c4 :: c5 :: r) 5 N := h
theorem x_at6 {α : Type} {c0 c1 c2 c3 c4 c5 c6 : α} {r : List α} {N : α → Prop} (h : N c6) : onAt (c0 :: c1 :: c2 :: c3 :: c4 :: c5 :: c6 :: r) 6 N := h
theorem x_sl (h : te ρ w fun x w1 => tl ρ w1 fun l w2 => th ρ w2 fun u w3 => rSl l u x w3 Q) : wSl te tl th ρ w Q := h
theorem x_no {N : Option Int → Wd → Prop} (h : N none w) : wNo ρ w N := h
theorem x_part {N : Option Int → Wd → Prop} (h : te ρ w fun x w1 => onI x fun i => N (some i) w1) : wPart te ρ w N := h
theorem x_onI {N : Int → Prop} (h : N i) : onI (.int i) N := h
theorem x_onB {N : Bool → Prop} (h : N b) : onB (.bl b) N := h
theorem x_onS {N : Str → Prop} (h : N s) : onS (.str s) N := h
theorem x_sll {l u : Option Int} (h : Q (.lst (cutD ds l u)) w) : rSl l u (.lst ds) w Q := h
theorem x_slz {l u : Option Int} (h : Q (.lst (cutD ds l u)) w) : rSl l u (.scr ds) w Q := h
theorem x_slt {l u : Option Int} (h : Q (.tup (cutD ds l u)) w) : rSl l u (.tup ds) w Q := h
theorem x_sls {l u : Option Int} (hl : s.length ≤ sizeLine) (h : Q (.str (cutS s l u)) w) : rSl l u (.str s) w Q := ⟨hl, h⟩
theorem x_lc (h : wi ρ w fun ds w1 => ds.length < sizeLine ∧ compD g tA te (wipeD ρ vs) (fun acc w2 => Q (.lst acc) w2) ds [] w1) : wLc wi g tA te vs ρ w Q := h
theorem x_seqI {N : List PV → Wd → Prop} (h : te ρ w fun x w1 => onSeq x fun ds => N ds w1) : wSeq te ρ w N := h
theorem x_sql {N : List PV → Prop} (h : N ds) : onSeq (.lst ds) N := h
theorem x_sqt {N : List PV → Prop} (h : N ds) : onSeq (.tup ds) N := h
theorem x_sqz {N : List PV → Prop} (h : N ds) : onSeq (.scr ds) N := h
theorem x_sqs {N : List PV → Prop} (h : N (signs s)) : onSeq (.str s) N := h
theorem x_rng1 {N : List PV → Wd → Prop} (h : TA ρ w fun ds w1 => rRng1 ds fun xs => N xs w1) : wRng1 TA ρ w N := h
theorem x_rrng1 {N : List PV → Prop} (h1 : -(2 ^ 62) ≤ j) (h2 : j < 2 ^ 62) (h : N (nums 0 j.toNat)) : rRng1 [.int j] N := ⟨⟨h1, h2⟩, h⟩
theorem x_rng2 {N : List PV → Wd → Prop} (h : TA ρ w fun ds w1 => rRng2 ds fun xs => N xs w1) : wRng2 TA ρ w N := h
theorem x_rrng2 {N : List PV → Prop} (h1 : -(2 ^ 62) ≤ i ∧ i < 2 ^ 62 ∧ -(2 ^ 62) ≤ j ∧ j < 2 ^ 62) (h : N (nums i (j - i).toNat)) : rRng2 [.int i, .int j] N := ⟨h1, h⟩
theorem x_join (h : ta ρ w fun x w1 => onS x fun a => te ρ w1 fun y w2 => rJoin a y w2 Q) : wJoin ta te ρ w Q := h
theorem x_test {N : Bool → Wd → Prop} (h : te ρ w fun z w1 => onB z fun b => N b w1) : wTest te ρ w N := h
theorem x_andT {N : Bool → Wd → Prop} (h : tA ρ w fun c w1 => if c = true then tB ρ w1 N else N false w1) : wAndT tA tB ρ w N := h
theorem x_orT {N : Bool → Wd → Prop} (h : tA ρ w fun c w1 => if c = true then N true w1 else tB ρ w1 N) : wOrT tA tB ρ w N := h
theorem x_notT {N : Bool → Wd → Prop} (h : tA ρ w fun c w1 => N (!c) w1) : wNotT tA ρ w N := h
theorem x_addI (h : Q (.int (i + j)) w) : dAdd (.int i) (.int j) w Q := h
theorem x_addS (hl : s.length + z.length ≤ sizeLine) (h : Q (.str (s ++ z)) w) : dAdd (.str s) (.str z) w Q := ⟨hl, h⟩
theorem x_addL (hl : ds.length + es.length ≤ sizeLine) (h : Q (.lst (ds ++ es)) w) : dAdd (.lst ds) (.lst es) w Q := ⟨hl, h⟩
theorem x_addT (hl : ds.length + es.length ≤ sizeLine) (h : Q (.tup (ds ++ es)) w) : dAdd (.tup ds) (.tup es) w Q := ⟨hl, h⟩
theorem x_sub (h : Q (.int (i - j)) w) : dSub (.int i) (.int j) w Q := h
theorem x_mod (c : 0 < j) (h : Q (.int (i % j)) w) : dMod (.int i) (.int j) w Q := ⟨c, h⟩
theorem x_fdiv (c : 0 < j) (c2 : j < 2 ^ 64) (h : Q (.int (i / j)) w) : dFdiv (.int i) (.int j) w Q := ⟨wide_div c (b := 64) (by omega) (by decide) (by decide), h⟩
theorem x_pow (c0 : 0 ≤ j) (c : j ≤ 1000000) (c2 : i.natAbs < 2 ^ 64) (h : Q (.int (i ^ j.toNat)) w) : dPow (.int i) (.int j) w Q := ⟨⟨c0, c, c2⟩, h⟩
theorem x_mul (c : (-(2 ^ 64) < i ∧ i < 2 ^ 64) ∨ (-(2 ^ 64) < j ∧ j < 2 ^ 64)) (h : Q (.int (i * j)) w) : dMul (.int i) (.int j) w Q := ⟨.inl c, h⟩
theorem x_mulS (c : MulOk s i) (h : Q (.str (Txt.mul s i)) w) : dMul (.str s) (.int i) w Q := ⟨c, h⟩
theorem x_eq (c1 : x.pl = true) (c2 : y.pl = true) (c3 : x.dep ≤ 64) (h : Q (.bl (PV.eqb x y)) w) : dEq x y w Q := ⟨⟨c1, c2, c3⟩, h⟩
theorem x_ne (c1 : x.pl = true) (c2 : y.pl = true) (c3 : x.dep ≤ 64) (h : Q (.bl (!PV.eqb x y)) w) : dNe x y w Q := ⟨⟨c1, c2, c3⟩, h⟩
theorem x_eqI (h : Q (.bl (decide (i = j))) w) : dEq (.int i) (.int j) w Q := ⟨⟨by simp [PV.pl], by simp [PV.pl], by simp [PV.dep]⟩, by simpa [PV.eqb, Bool.beq_eq_decide_eq] using h⟩
theorem x_neI (h : Q (.bl (!decide (i = j))) w) : dNe (.int i) (.int j) w Q := ⟨⟨by simp [PV.pl], by simp [PV.pl], by simp [PV.dep]⟩, by simpa [PV.eqb, Bool.beq_eq_decide_eq] using h⟩
theorem str_beq (x y : Str) : (x == y) = decide (x = y) := by
  by_cases e : x = y
  · subst e; simp
  · rw [decide_eq_false e]; simpa using e
theorem x_eqS (h : Q (.bl (decide (s = z))) w) : dEq (.str s) (.str z) w Q := ⟨⟨by simp [PV.pl], by simp [PV.pl], by simp [PV.dep]⟩, by simp only [PV.eqb, str_beq]; exact h⟩
theorem x_neS (h : Q (.bl (!decide (s = z))) w) : dNe (.str s) (.str z) w Q := ⟨⟨by simp [PV.pl], by simp [PV.pl], by simp [PV.dep]⟩, by simp only [PV.eqb, str_beq]; exact h⟩
theorem x_eqB {c : Bool} (h : Q (.bl (b == c)) w) : dEq (.bl b) (.bl c) w Q := ⟨⟨by simp [PV.pl], by simp [PV.pl], by simp [PV.dep]⟩, by simpa [PV.eqb] using h⟩
theorem x_ltI (h : Q (.bl (decide (i < j))) w) : dLt (.int i) (.int j) w Q := h
theorem x_leI (h : Q (.bl (decide (i ≤ j))) w) : dLe (.int i) (.int j) w Q := h
theorem x_gtI (h : Q (.bl (decide (j < i))) w) : dGt (.int i) (.int j) w Q := h
theorem x_geI (h : Q (.bl (decide (j ≤ i))) w) : dGe (.int i) (.int j) w Q := h
theorem x_ltS (h : Q (.bl (decide (s.cps.toList < z.cps.toList))) w) : dLt (.str s) (.str z) w Q := h
theorem x_gtS (h : Q (.bl (decide (z.cps.toList < s.cps.toList))) w) : dGt (.str s) (.str z) w Q := h
theorem x_isnt (h : Q (.bl true) w) : dIs false .non .non w Q := h
theorem x_isB {c : Bool} (h : Q (.bl (decide (b = c))) w) : dIs false (.bl b) (.bl c) w Q := h
theorem x_isnB {c : Bool} (h : Q (.bl (!decide (b = c))) w) : dIs true (.bl b) (.bl c) w Q := h
theorem x_lenL (h : Q (.int ds.length) w) : cLen [.lst ds] w Q := h
theorem x_lenT (h : Q (.int ds.length) w) : cLen [.tup ds] w Q := h
theorem x_lenZ (h : Q (.int ds.length) w) : cLen [.scr ds] w Q := h
theorem x_lenS (hl : s.length ≤ sizeLine) (h : Q (.int s.length) w) : cLen [.str s] w Q := ⟨hl, h⟩
theorem x_lenR (hw : w a = some (.lst ds)) (h : Q (.int ds.length) w) : cLen [.ref a] w Q := by unfold cLen; simp only [vw, hw]; exact h
theorem x_abs (h : Q (.int (if i < 0 then -i else i)) w) : cAbs [.int i] w Q := h
theorem x_max (h : Q (.int (if j > i then j else i)) w) : cMax2 [.int i, .int j] w Q := h
theorem x_min (h : Q (.int (if j < i then j else i)) w) : cMin2 [.int i, .int j] w Q := h
theorem x_intI (h : Q (.int i) w) : cInt [.int i] w Q := h
theorem x_intB (h : Q (.int (if b then 1 else 0)) w) : cInt [.bl b] w Q := h
theorem x_listL (h : Q (.lst ds) w) : cList [.lst ds] w Q := h
theorem x_listT (h : Q (.lst ds) w) : cList [.tup ds] w Q := h
theorem x_tupL (h : Q (.tup ds) w) : cTuple [.lst ds] w Q := h
theorem x_tupT (h : Q (.tup ds) w) : cTuple [.tup ds] w Q := h
theorem x_cI {c : String} {f : Wd → PV → Bool} (o : okTy w x) (h : Q (.bl (f w x)) w) : cI c f [x, .ty c] w Q := ⟨rfl, o, h⟩
theorem x_cI2 {c1 c2 : String} {f1 f2 : Wd → PV → Bool} (o : okTy w x) (h : Q (.bl (f1 w x || f2 w x)) w) : cI2 c1 c2 f1 f2 [x, .tup [.ty c1, .ty c2]] w Q := ⟨⟨rfl, rfl⟩, o, h⟩
theorem x_ixL (e : atI ds i = some d) (h : Q d w) : dIx (.lst ds) (.int i) w Q := ⟨d, e, h⟩
theorem x_ixT (e : atI ds i = some d) (h : Q d w) : dIx (.tup ds) (.int i) w Q := ⟨d, e, h⟩
theorem x_ixZ (e : atI ds i = some d) (h : Q d w) : dIx (.scr ds) (.int i) w Q := ⟨d, e, h⟩
theorem x_ixS {c : Nat} (e : atI s.cps.toList i = some c) (hl : s.length ≤ sizeLine) (h : Q (.str ⟨#[c]⟩) w) : dIx (.str s) (.int i) w Q := ⟨hl, c, e, h⟩
theorem x_and (c : A) (h : B) : A ∧ B := ⟨c, h⟩
theorem x_iteT {c : Prop} [Decidable c] (hc : c) (h : A) : if decide c = true then A else B := by rw [if_pos (decide_eq_true hc)]; exact h
theorem x_iteF {c : Prop} [Decidable c] (hc : ¬ c) (h : B) : if decide c = true then A else B := by rw [if_neg (by simpa using hc)]; exact h
theorem x_iteNT {c : Prop} [Decidable c] (hc : ¬ c) (h : A) : if (!decide c) = true then A else B := by rw [if_pos (by simpa using hc)]; exact h
theorem x_iteNF {c : Prop} [Decidable c] (hc : c) (h : B) : if (!decide c) = true then A else B := by rw [if_neg (by simpa using hc)]; exact h
theorem x_ite {c : Prop} [Decidable c] (h1 : c → A) (h2 : ¬ c → B) : if decide c = true then A else B := ite2 (fun h => h1 (by simpa using h)) fun h => h2 (by simpa using h)
theorem x_iteN {c : Prop} [Decidable c] (h1 : ¬ c → A) (h2 : c → B) : if (!decide c) = true then A else B := ite2 (fun h => h1 (by simpa using h)) fun h => h2 (by simpa using h)
theorem x_iTrue (h : A) : if True then A else B := by rw [if_pos True.intro]; exact h
theorem x_iFalse (h : B) : if False then A else B := by rw [if_neg id]; exact h
theorem x_iteV (hb : b = true) (h : A) : if b = true then A else B := by rw [if_pos hb]; exact h
theorem x_iteW (hb : b = false) (h : B) : if b = true then A else B := by rw [if_neg (by rw [hb]; decide)]; exact h
theorem x_iteNV (hb : b = false) (h : A) : if (!b) = true then A else B := by rw [if_pos (by rw [hb]; rfl)]; exact h
theorem x_iteNW (hb : b = true) (h : B) : if (!b) = true then A else B := by rw [if_neg (by rw [hb]; decide)]; exact h
theorem x_iteB (h1 : b = true → A) (h2 : b = false → B) : if b = true then A else B := ite2 h1 fun h => h2 (by simpa using h)
end
end Pd

/-! plain mathematics: texts, names -/
namespace Pd
open PySem L2

/-- a sign from a to z -/
def isLow (c : Nat) : Bool := decide (97 ≤ c) && decide (c ≤ 122)
/-- a NAME -/
def nameS (x : Str) : Bool := decide (1 ≤ x.length) && decide (x.length ≤ 8) && x.cps.toList.all isLow
def isNm : PV → Bool
  | .str x => nameS x
  | _ => false
def isVal : PV → Bool
  | .int _ => true
  | .str _ => true
  | _ => false
theorem letters_list : ("abcdefghijklmnopqrstuvwxyz" : Str).cps.toList = [97, 98, 99, 100, 101, 102, 103, 104, 105, 106, 107, 108, 109, 110, 111, 112, 113, 114, 115, 116, 117, 118, 119, 120, 121, 122] := by decide +kernel
theorem mem_letters (c : Nat) : decide (c ∈ ("abcdefghijklmnopqrstuvwxyz" : Str).cps.toList) = isLow c := by
  rw [letters_list, Bool.eq_iff_iff]
  simp only [decide_eq_true_eq, isLow, Bool.and_eq_true, List.mem_cons, List.not_mem_nil, or_false]
  omega
theorem cps_a : ("a" : Str).cps.toList = [97] := by decide +kernel
theorem cps_z : ("z" : Str).cps.toList = [122] := by decide +kernel
theorem lt_one (c d : Nat) : decide ([c] < [d]) = decide (c < d) := by
  rw [Bool.eq_iff_iff]
  simp only [decide_eq_true_eq]
  constructor
  · intro h
    cases h with
    | rel h => exact h
    | cons h => cases h
  · intro h; exact .rel h
theorem all_not_filter {α : Type} (p q : α → Bool) (h : ∀ x, p x = !q x) : ∀ xs : List α, (xs.filter q).isEmpty = xs.all p
  | [] => rfl
  | x :: r => by
    rw [List.all_cons, h x]
    cases e : q x with
    | true => simp [List.filter_cons, e]
    | false => simp only [List.filter_cons, e, Bool.false_eq_true, if_false, Bool.not_false, Bool.true_and]; exact all_not_filter p q h r
theorem eqbs_nil (xs : List PV) : PV.eqbs xs [] = xs.isEmpty := by
  cases xs <;> simp [PV.eqbs]
theorem pls_all {f : α → PV} (h : ∀ x, (f x).pl = true) : ∀ xs : List α, PV.pls (xs.map f) = true
  | [] => by simp [PV.pls]
  | x :: r => by simp [PV.pls, h x, pls_all h r]
theorem deps_all {f : α → PV} {n : Nat} (h : ∀ x, (f x).dep ≤ n) : ∀ xs : List α, PV.deps (xs.map f) ≤ n
  | [] => by simp [PV.deps]
  | x :: r => by
    have := deps_all h r
    have := h x
    simp only [List.map_cons, PV.deps]; omega
theorem pls_iff : ∀ {ds : List PV}, PV.pls ds = true ↔ ∀ d ∈ ds, d.pl = true
  | [] => by simp [PV.pls]
  | x :: r => by simp [PV.pls, pls_iff (ds := r)]
theorem pls_append {xs ys : List PV} (h1 : PV.pls xs = true) (h2 : PV.pls ys = true) : PV.pls (xs ++ ys) = true := by
  rw [pls_iff] at *
  intro d hd
  rcases List.mem_append.mp hd with h | h
  · exact h1 d h
  · exact h2 d h
/-- data has a known class -/
theorem okTy_pl {w : Wd} {d : PV} (h : d.pl = true) : okTy w d := by
  cases d <;> simp [PV.pl] at h <;> exact True.intro
theorem comp_mapG {α : Type} {i : Nat} {te : WE} {ρ : Sl} {k : List PV → Wd → Prop} {w : Wd} (g f : α → PV) : ∀ (xs : List α) (acc : List PV), (∀ x ∈ xs, ∀ Q : WQ, Q (f x) w → te (ρ.set i (some (g x))) w Q) → k (acc ++ xs.map f) w → compD (wName i) wYes te ρ k (xs.map g) acc w
  | [], acc, _, h => by simpa [compD] using h
  | d :: r, acc, he, h => by
    simp only [List.map_cons, compD, wName, wYes, if_true]
    refine he d (List.mem_cons_self) _ ?_
    exact comp_mapG g f r _ (fun x hx => he x (List.mem_cons_of_mem _ hx)) (by simpa using h)
theorem comp_filterG {α : Type} {i : Nat} {tt : WT} {te : WE} {ρ : Sl} {k : List PV → Wd → Prop} {w : Wd} (g : α → PV) (p : α → Bool) (f : α → PV) : ∀ (xs : List α) (acc : List PV), (∀ x ∈ xs, ∀ Q : Bool → Wd → Prop, Q (p x) w → tt (ρ.set i (some (g x))) w Q) → (∀ x ∈ xs, p x = true → ∀ Q : WQ, Q (f x) w → te (ρ.set i (some (g x))) w Q) → k (acc ++ (xs.filter p).map f) w → compD (wName i) tt te ρ k (xs.map g) acc w
  | [], acc, _, _, h => by simpa [compD] using h
  | d :: r, acc, ht, he, h => by
    simp only [List.map_cons, compD, wName]
    refine ht d (List.mem_cons_self) _ ?_
    cases e : p d with
    | true =>
      simp only [if_true]
      refine he d (List.mem_cons_self) e _ ?_
      exact comp_filterG g p f r _ (fun x hx => ht x (List.mem_cons_of_mem _ hx)) (fun x hx => he x (List.mem_cons_of_mem _ hx)) (by simpa [List.filter_cons, e] using h)
    | false =>
      simp only [Bool.false_eq_true, if_false]
      exact comp_filterG g p f r _ (fun x hx => ht x (List.mem_cons_of_mem _ hx)) (fun x hx => he x (List.mem_cons_of_mem _ hx)) (by simpa [List.filter_cons, e] using h)
/-- one sign a text, joined by nothing -/
theorem join_signs (ys : List Str) : (Txt.join "" ys).cps.toList = (ys.map (·.cps.toList)).flatten := by
  rw [TL.join_eq]
  have h := TL.tl_join "" ys
  have e : TL.tl ("" : Str) = [] := by decide +kernel
  rw [e] at h
  have j : ∀ ps : List (List Nat), TL.joinL [] ps = ps.flatten := by
    intro ps
    induction ps with
    | nil => rfl
    | cons p r ih =>
      cases r with
      | nil => simp [TL.joinL]
      | cons q r => simp only [TL.joinL, List.nil_append, ih, List.flatten_cons]
  rw [j] at h
  exact h
theorem str_len (x : Str) : x.length = x.cps.toList.length := by simp [Str.length]
theorem join_len {ys : List Str} (h : ∀ y ∈ ys, y.length = 1) : (Txt.join "" ys).length = ys.length := by
  rw [str_len, join_signs]
  induction ys with
  | nil => rfl
  | cons y r ih =>
    simp only [List.map_cons, List.flatten_cons, List.length_append, List.length_cons]
    rw [ih fun z hz => h z (List.mem_cons_of_mem _ hz), ← str_len, h y List.mem_cons_self]
    omega
theorem cutS_len (z : Str) (lo hi : Option Int) : (cutS z lo hi).length ≤ z.length := by
  rw [str_len, str_len]
  simp only [cutS, List.length_take, List.length_drop]
  omega
theorem app_len (x y : Str) : (x ++ y).length = x.length + y.length := by
  rw [str_len, str_len, str_len]
  show (x.cps ++ y.cps).toList.length = _
  simp
theorem sl_small {n : Nat} (h : n ≤ 1000000) : n ≤ sizeLine := by rw [sizeLine_eq]; omega
theorem strsOf_map : ∀ xs : List Str, strsOf (xs.map PV.str) = some xs
  | [] => rfl
  | x :: r => by simp [strsOf, strsOf_map r]
end Pd
namespace Pd
open PySem L2
theorem cutD_map {α β : Type} (f : α → β) (xs : List α) (lo hi : Option Int) : cutD (xs.map f) lo hi = (cutD xs lo hi).map f := by
  unfold cutD
  rw [List.length_map, List.map_take, List.map_drop]
theorem cutD_le {α : Type} (xs : List α) (n : Nat) : (cutD xs none (some (n : Int))).length ≤ n := by
  unfold cutD
  rw [HT.sIx_nat, HT.sIx_none, List.length_take]
  omega
theorem cutD_mem {α : Type} {xs : List α} {lo hi : Option Int} {x : α} (h : x ∈ cutD xs lo hi) : x ∈ xs := by
  unfold cutD at h
  exact List.mem_of_mem_drop (List.mem_of_mem_take h)
theorem cutD_len {α : Type} (xs : List α) (lo hi : Option Int) : (cutD xs lo hi).length ≤ xs.length := by
  unfold cutD
  rw [List.length_take, List.length_drop]
  omega
/-- data that is handed about: no things, not deep, texts not long -/
def szB : PV → Bool
  | .str s => decide (s.length ≤ 1000)
  | _ => true
def okB (d : PV) : Bool := d.pl && decide (d.dep ≤ 10) && szB d
section
variable {w : Wd} {Q : WQ} {d : PV} {ds : List PV} {i : Int} {s : Str}
theorem all_mem {p : PV → Bool} (h : ds.all p = true) : ∀ d ∈ ds, p d = true := List.all_eq_true.mp h
theorem x_ixLB (p : PV → Bool) (h0 : 0 ≤ i) (h1 : i < ds.length) (ha : ds.all p = true) (h : ∀ d, p d = true → d ∈ ds → Q d w) : dIx (.lst ds) (.int i) w Q := by
  obtain ⟨d, hd, hm⟩ := atI_lt h0 h1
  exact ⟨d, hd, h d (all_mem ha d hm) hm⟩
theorem x_ixTB (p : PV → Bool) (h0 : 0 ≤ i) (h1 : i < ds.length) (ha : ds.all p = true) (h : ∀ d, p d = true → d ∈ ds → Q d w) : dIx (.tup ds) (.int i) w Q := by
  obtain ⟨d, hd, hm⟩ := atI_lt h0 h1
  exact ⟨d, hd, h d (all_mem ha d hm) hm⟩
theorem x_ixSB (h0 : 0 ≤ i) (h1 : i < s.length) (hl : s.length ≤ sizeLine) (h : ∀ c, c ∈ s.cps.toList → Q (.str ⟨#[c]⟩) w) : dIx (.str s) (.int i) w Q := by
  rw [str_len] at h1
  obtain ⟨c, hc, hm⟩ := atI_lt h0 h1
  exact ⟨hl, c, hc, h c hm⟩
end
theorem nums_zero (n : Nat) : nums 0 n = (List.range n).map fun (i : Nat) => PV.int (0 + i) := rfl
end Pd

/-! the steps found by instances: one look-up a step -/
namespace Pd
open PySem L2
class Stp (G : Prop) (N : outParam Prop) : Prop where
  go : N → G
section
variable {ρ : Sl} {w : Wd} {Q : WQ} {D : WEnds} {t u : WS} {te ta tb tc : WE} {tA tB : WT} {TA : WA} {g : WG} {r r' : R2D} {p : PSp} {rc : RcD} {d x y : PV} {ds es xs : List PV} {i j : Int} {n k : Nat} {a : Addr} {s z : Str} {b : Bool} {wi : WI} {tl th : WO} {vs : List Nat} {A B : Prop}
instance s_seq  : Stp (wSeq2 t u D ρ w) (t { nx := u D, rt := D.rt, bk := D.bk, ct := D.ct } ρ w) := ⟨x_seq⟩
instance s_next  : Stp (wNext D ρ w) (D.nx ρ w) := ⟨x_next⟩
instance s_break  : Stp (wBreak D ρ w) (D.bk ρ w) := ⟨x_break⟩
instance s_cont  : Stp (wCont D ρ w) (D.ct ρ w) := ⟨x_cont⟩
instance s_asg  : Stp (wAsg te g D ρ w) (te ρ w fun x w1 => g x ρ w1 D.nx) := ⟨x_asg⟩
instance s_drop  : Stp (wDrop te D ρ w) (te ρ w fun _ w1 => D.nx ρ w1) := ⟨x_drop⟩
instance s_ret  : Stp (wRet te D ρ w) (te ρ w D.rt) := ⟨x_ret⟩
instance s_retN  : Stp (wRetN D ρ w) (D.rt .non w) := ⟨x_retN⟩
instance s_if  : Stp (wIf tA t u D ρ w) (tA ρ w fun b w1 => if b = true then t D ρ w1 else u D ρ w1) := ⟨x_if⟩
instance s_for {wb : WS} : Stp (wFor wi g wb D ρ w) (wi ρ w fun ds w1 => forD g wb D ds ρ w1) := ⟨x_for⟩
instance s_name {N : Sl → Wd → Prop} : Stp (wName n d ρ w N) (N (ρ.set n (some d)) w) := ⟨x_name⟩
instance s_gcons {N : Sl → Wd → Prop} {gs : WGs} : Stp (wgCons g gs (d :: ds) ρ w N) (g d ρ w fun ρ' w' => gs ds ρ' w' N) := ⟨x_gcons⟩
instance s_gnil {N : Sl → Wd → Prop} : Stp (wgNil [] ρ w N) (N ρ w) := ⟨x_gnil⟩
instance s_gsubc {N : Sl → Wd → Prop} : Stp (wgSubC n te d ρ w N) (te ρ w fun o w1 => rSubC n d o w1 fun w2 => N ρ w2) := ⟨x_gsubc⟩
instance s_v0 {r : Sl} : Stp (wVar 0 (some d :: r) w Q) (Q d w) := ⟨x_v0⟩
instance s_v1 {o0 : Option PV} {r : Sl} : Stp (wVar 1 (o0 :: some d :: r) w Q) (Q d w) := ⟨x_v1⟩
instance s_v2 {o0 o1 : Option PV} {r : Sl} : Stp (wVar 2 (o0 :: o1 :: some d :: r) w Q) (Q d w) := ⟨x_v2⟩
instance s_v3 {o0 o1 o2 : Option PV} {r : Sl} : Stp (wVar 3 (o0 :: o1 :: o2 :: some d :: r) w Q) (Q d w) := ⟨x_v3⟩
instance s_v4 {o0 o1 o2 o3 : Option PV} {r : Sl} : Stp (wVar 4 (o0 :: o1 :: o2 :: o3 :: some d :: r) w Q) (Q d w) := ⟨x_v4⟩
instance s_v5 {o0 o1 o2 o3 o4 : Option PV} {r : Sl} : Stp (wVar 5 (o0 :: o1 :: o2 :: o3 :: o4 :: some d :: r) w Q) (Q d w) := ⟨x_v5⟩
instance s_v6 {o0 o1 o2 o3 o4 o5 : Option PV} {r : Sl} : Stp (wVar 6 (o0 :: o1 :: o2 :: o3 :: o4 :: o5 :: some d :: r) w Q) (Q d w) := ⟨x_v6⟩
instance s_v7 {o0 o1 o2 o3 o4 o5 o6 : Option PV} {r : Sl} : Stp (wVar 7 (o0 :: o1 :: o2 :: o3 :: o4 :: o5 :: o6 :: some d :: r) w Q) (Q d w) := ⟨x_v7⟩
instance s_v8 {o0 o1 o2 o3 o4 o5 o6 o7 : Option PV} {r : Sl} : Stp (wVar 8 (o0 :: o1 :: o2 :: o3 :: o4 :: o5 :: o6 :: o7 :: some d :: r) w Q) (Q d w) := ⟨x_v8⟩
instance s_v9 {o0 o1 o2 o3 o4 o5 o6 o7 o8 : Option PV} {r : Sl} : Stp (wVar 9 (o0 :: o1 :: o2 :: o3 :: o4 :: o5 :: o6 :: o7 :: o8 :: some d :: r) w Q) (Q d w) := ⟨x_v9⟩
instance s_v10 {o0 o1 o2 o3 o4 o5 o6 o7 o8 o9 : Option PV} {r : Sl} : Stp (wVar 10 (o0 :: o1 :: o2 :: o3 :: o4 :: o5 :: o6 :: o7 :: o8 :: o9 :: some d :: r) w Q) (Q d w) := ⟨x_v10⟩
instance s_v11 {o0 o1 o2 o3 o4 o5 o6 o7 o8 o9 o10 : Option PV} {r : Sl} : Stp (wVar 11 (o0 :: o1 :: o2 :: o3 :: o4 :: o5 :: o6 :: o7 :: o8 :: o9 :: o10 :: some d :: r) w Q) (Q d w) := ⟨x_v11⟩
instance s_v12 {o0 o1 o2 o3 o4 o5 o6 o7 o8 o9 o10 o11 : Option PV} {r : Sl} : Stp (wVar 12 (o0 :: o1 :: o2 :: o3 :: o4 :: o5 :: o6 :: o7 :: o8 :: o9 :: o10 :: o11 :: some d :: r) w Q) (Q d w) := ⟨x_v12⟩
instance s_v13 {o0 o1 o2 o3 o4 o5 o6 o7 o8 o9 o10 o11 o12 : Option PV} {r : Sl} : Stp (wVar 13 (o0 :: o1 :: o2 :: o3 :: o4 :: o5 :: o6 :: o7 :: o8 :: o9 :: o10 :: o11 :: o12 :: some d :: r) w Q) (Q d w) := ⟨x_v13⟩
instance s_v14 {o0 o1 o2 o3 o4 o5 o6 o7 o8 o9 o10 o11 o12 o13 : Option PV} {r : Sl} : Stp (wVar 14 (o0 :: o1 :: o2 :: o3 :: o4 :: o5 :: o6 :: o7 :: o8 :: o9 :: o10 :: o11 :: o12 :: o13 :: some d :: r) w Q) (Q d w) := ⟨x_v14⟩
instance s_v15 {o0 o1 o2 o3 o4 o5 o6 o7 o8 o9 o10 o11 o12 o13 o14 : Option PV} {r : Sl} : Stp (wVar 15 (o0 :: o1 :: o2 :: o3 :: o4 :: o5 :: o6 :: o7 :: o8 :: o9 :: o10 :: o11 :: o12 :: o13 :: o14 :: some d :: r) w Q) (Q d w) := ⟨x_v15⟩
instance s_v16 {o0 o1 o2 o3 o4 o5 o6 o7 o8 o9 o10 o11 o12 o13 o14 o15 : Option PV} {r : Sl} : Stp (wVar 16 (o0 :: o1 :: o2 :: o3 :: o4 :: o5 :: o6 :: o7 :: o8 :: o9 :: o10 :: o11 :: o12 :: o13 :: o14 :: o15 :: some d :: r) w Q) (Q d w) := ⟨x_v16⟩
instance s_v17 {o0 o1 o2 o3 o4 o5 o6 o7 o8 o9 o10 o11 o12 o13 o14 o15 o16 : Option PV} {r : Sl} : Stp (wVar 17 (o0 :: o1 :: o2 :: o3 :: o4 :: o5 :: o6 :: o7 :: o8 :: o9 :: o10 :: o11 :: o12 :: o13 :: o14 :: o15 :: o16 :: some d :: r) w Q) (Q d w) := ⟨x_v17⟩
instance s_v18 {o0 o1 o2 o3 o4 o5 o6 o7 o8 o9 o10 o11 o12 o13 o14 o15 o16 o17 : Option PV} {r : Sl} : Stp (wVar 18 (o0 :: o1 :: o2 :: o3 :: o4 :: o5 :: o6 :: o7 :: o8 :: o9 :: o10 :: o11 :: o12 :: o13 :: o14 :: o15 :: o16 :: o17 :: some d :: r) w Q) (Q d w) := ⟨x_v18⟩
instance s_v19 {o0 o1 o2 o3 o4 o5 o6 o7 o8 o9 o10 o11 o12 o13 o14 o15 o16 o17 o18 : Option PV} {r : Sl} : Stp (wVar 19 (o0 :: o1 :: o2 :: o3 :: o4 :: o5 :: o6 :: o7 :: o8 :: o9 :: o10 :: o11 :: o12 :: o13 :: o14 :: o15 :: o16 :: o17 :: o18 :: some d :: r) w Q) (Q d w) := ⟨x_v19⟩
instance s_v20 {o0 o1 o2 o3 o4 o5 o6 o7 o8 o9 o10 o11 o12 o13 o14 o15 o16 o17 o18 o19 : Option PV} {r : Sl} : Stp (wVar 20 (o0 :: o1 :: o2 :: o3 :: o4 :: o5 :: o6 :: o7 :: o8 :: o9 :: o10 :: o11 :: o12 :: o13 :: o14 :: o15 :: o16 :: o17 :: o18 :: o19 :: some d :: r) w Q) (Q d w) := ⟨x_v20⟩
instance s_v21 {o0 o1 o2 o3 o4 o5 o6 o7 o8 o9 o10 o11 o12 o13 o14 o15 o16 o17 o18 o19 o20 : Option PV} {r : Sl} : Stp (wVar 21 (o0 :: o1 :: o2 :: o3 :: o4 :: o5 :: o6 :: o7 :: o8 :: o9 :: o10 :: o11 :: o12 :: o13 :: o14 :: o15 :: o16 :: o17 :: o18 :: o19 :: o20 :: some d :: r) w Q) (Q d w) := ⟨x_v21⟩
instance s_v22 {o0 o1 o2 o3 o4 o5 o6 o7 o8 o9 o10 o11 o12 o13 o14 o15 o16 o17 o18 o19 o20 o21 : Option PV} {r : Sl} : Stp (wVar 22 (o0 :: o1 :: o2 :: o3 :: o4 :: o5 :: o6 :: o7 :: o8 :: o9 :: o10 :: o11 :: o12 :: o13 :: o14 :: o15 :: o16 :: o17 :: o18 :: o19 :: o20 :: o21 :: some d :: r) w Q) (Q d w) := ⟨x_v22⟩
instance s_v23 {o0 o1 o2 o3 o4 o5 o6 o7 o8 o9 o10 o11 o12 o13 o14 o15 o16 o17 o18 o19 o20 o21 o22 : Option PV} {r : Sl} : Stp (wVar 23 (o0 :: o1 :: o2 :: o3 :: o4 :: o5 :: o6 :: o7 :: o8 :: o9 :: o10 :: o11 :: o12 :: o13 :: o14 :: o15 :: o16 :: o17 :: o18 :: o19 :: o20 :: o21 :: o22 :: some d :: r) w Q) (Q d w) := ⟨x_v23⟩
instance s_v24 {o0 o1 o2 o3 o4 o5 o6 o7 o8 o9 o10 o11 o12 o13 o14 o15 o16 o17 o18 o19 o20 o21 o22 o23 : Option PV} {r : Sl} : Stp (wVar 24 (o0 :: o1 :: o2 :: o3 :: o4 :: o5 :: o6 :: o7 :: o8 :: o9 :: o10 :: o11 :: o12 :: o13 :: o14 :: o15 :: o16 :: o17 :: o18 :: o19 :: o20 :: o21 :: o22 :: o23 :: some d :: r) w Q) (Q d w) := ⟨x_v24⟩
instance s_v25 {o0 o1 o2 o3 o4 o5 o6 o7 o8 o9 o10 o11 o12 o13 o14 o15 o16 o17 o18 o19 o20 o21 o22 o23 o24 : Option PV} {r : Sl} : Stp (wVar 25 (o0 :: o1 :: o2 :: o3 :: o4 :: o5 :: o6 :: o7 :: o8 :: o9 :: o10 :: o11 :: o12 :: o13 :: o14 :: o15 :: o16 :: o17 :: o18 :: o19 :: o20 :: o21 :: o22 :: o23 :: o24 :: some d :: r) w Q) (Q d w) := ⟨x_v25⟩
instance s_c  : Stp (wC d ρ w Q) (Q d w) := ⟨x_c⟩
instance s_op  : Stp (wOp r ta tb ρ w Q) (ta ρ w fun x w1 => tb ρ w1 fun y w2 => r x y w2 Q) := ⟨x_op⟩
instance s_andV  : Stp (wAndV ta tb ρ w Q) (ta ρ w fun x w1 => onB x fun c => if c = true then tb ρ w1 Q else Q (.bl false) w1) := ⟨x_andV⟩
instance s_orV  : Stp (wOrV ta tb ρ w Q) (ta ρ w fun x w1 => onB x fun c => if c = true then Q (.bl true) w1 else tb ρ w1 Q) := ⟨x_orV⟩
instance s_notV  : Stp (wNotV ta ρ w Q) (ta ρ w fun x w1 => onB x fun c => Q (.bl (!c)) w1) := ⟨x_notV⟩
instance s_ifE  : Stp (wIfE tA ta tb ρ w Q) (tA ρ w fun c w1 => if c = true then ta ρ w1 Q else tb ρ w1 Q) := ⟨x_ifE⟩
instance s_neg  : Stp (wNeg ta ρ w Q) (ta ρ w fun x w1 => rNeg x w1 Q) := ⟨x_neg⟩
instance s_rneg  : Stp (rNeg (.int i) w Q) (Q (.int (-i)) w) := ⟨x_rneg⟩
instance s_chain  : Stp (wChain r r' ta tb tc ρ w Q) (ta ρ w fun x w1 => tb ρ w1 fun y w2 => r x y w2 fun z w3 => onB z fun k => if k = true then tc ρ w3 fun u w4 => r' y u w4 Q else Q (.bl false) w3) := ⟨x_chain⟩
instance s_tup  : Stp (wTup TA ρ w Q) (TA ρ w fun xs w1 => xs.length ≤ sizeLine ∧ Q (.tup xs) w1) := ⟨x_tup⟩
instance s_lst  : Stp (wLst TA ρ w Q) (TA ρ w fun xs w1 => xs.length ≤ sizeLine ∧ Q (.lst xs) w1) := ⟨x_lst⟩
instance s_mlst  : Stp (wMLst TA ρ w Q) (TA ρ w fun xs w1 => xs.length ≤ sizeLine ∧ ∀ p, w1 p = none → Q (.ref p) (wset w1 p (.lst xs))) := ⟨x_mlst⟩
instance s_cons {N : List PV → Wd → Prop} : Stp (wCons ta TA ρ w N) (ta ρ w fun x w1 => TA ρ w1 fun xs w2 => N (x :: xs) w2) := ⟨x_cons⟩
instance s_nil {N : List PV → Wd → Prop} : Stp (wNil ρ w N) (N [] w) := ⟨x_nil⟩
instance s_cb  : Stp (wCB rc TA ρ w Q) (TA ρ w fun ds w1 => rc ds w1 Q) := ⟨x_cb⟩
instance s_call  : Stp (wCall p TA ρ w Q) (TA ρ w fun ds w1 => p ds w1 Q) := ⟨x_call⟩
instance s_ixc  : Stp (wIxC n ta ρ w Q) (ta ρ w fun x w1 => rIxC n x w1 Q) := ⟨x_ixc⟩
instance s_rixl  : Stp (rIxC n (.lst ds) w Q) (onAt ds n fun d => Q d w) := ⟨x_rixl⟩
instance s_rixt  : Stp (rIxC n (.tup ds) w Q) (onAt ds n fun d => Q d w) := ⟨x_rixt⟩
instance s_rixz  : Stp (rIxC n (.scr ds) w Q) (onAt ds n fun d => Q d w) := ⟨x_rixz⟩
instance s_at0 {α : Type} {c0 : α} {r : List α} {N : α → Prop} : Stp (onAt (c0 :: r) 0 N) (N c0) := ⟨x_at0⟩
instance s_at1 {α : Type} {c0 c1 : α} {r : List α} {N : α → Prop} : Stp (onAt (c0 :: c1 :: r) 1 N) (N c1) := ⟨x_at1⟩
instance s_at2 {α : Type} {c0 c1 c2 : α} {r : List α} {N : α → Prop} : Stp (onAt (c0 :: c1 :: c2 :: r) 2 N) (N c2) := ⟨x_at2⟩
instance s_at3 {α : Type} {c0 c1 c2 c3 : α} {r : List α} {N : α → Prop} : Stp (onAt (c0 :: c1 :: c2 :: c3 :: r) 3 N) (N c3) := ⟨x_at3⟩
instance s_at4 {α : Type} {c0 c1 c2 c3 c4 : α} {r : List α} {N : α → Prop} : Stp (onAt (c0 :: c1 :: c2 :: c3 :: c4 :: r) 4 N) (N c4) := ⟨x_at4⟩
instance s_at5 {α : Type} {c0 c1 c2 c3 c4 c5 : α} {r : List α} {N : α → Prop} : Stp (onAt (c0 :: c1 :: c2 :: c3 :: c4 :: c5 :: r) 5 N) (N c5) := ⟨x_at5⟩
instance s_at6 {α : Type} {c0 c1 c2 c3 c4 c5 c6 : α} {r : List α} {N : α → Prop} : Stp (onAt (c0 :: c1 :: c2 :: c3 :: c4 :: c5 :: c6 :: r) 6 N) (N c6) := ⟨x_at6⟩
instance s_sl  : Stp (wSl te tl th ρ w Q) (te ρ w fun x w1 => tl ρ w1 fun l w2 => th ρ w2 fun u w3 => rSl l u x w3 Q) := ⟨x_sl⟩
instance s_no {N : Option Int → Wd → Prop} : Stp (wNo ρ w N) (N none w) := ⟨x_no⟩
instance s_part {N : Option Int → Wd → Prop} : Stp (wPart te ρ w N) (te ρ w fun x w1 => onI x fun i => N (some i) w1) := ⟨x_part⟩
instance s_onI {N : Int → Prop} : Stp (onI (.int i) N) (N i) := ⟨x_onI⟩
instance s_onB {N : Bool → Prop} : Stp (onB (.bl b) N) (N b) := ⟨x_onB⟩
instance s_onS {N : Str → Prop} : Stp (onS (.str s) N) (N s) := ⟨x_onS⟩
instance s_sll {l u : Option Int} : Stp (rSl l u (.lst ds) w Q) (Q (.lst (cutD ds l u)) w) := ⟨x_sll⟩
instance s_slz {l u : Option Int} : Stp (rSl l u (.scr ds) w Q) (Q (.lst (cutD ds l u)) w) := ⟨x_slz⟩
instance s_slt {l u : Option Int} : Stp (rSl l u (.tup ds) w Q) (Q (.tup (cutD ds l u)) w) := ⟨x_slt⟩
instance s_lc  : Stp (wLc wi g tA te vs ρ w Q) (wi ρ w fun ds w1 => ds.length < sizeLine ∧ compD g tA te (wipeD ρ vs) (fun acc w2 => Q (.lst acc) w2) ds [] w1) := ⟨x_lc⟩
instance s_seqI {N : List PV → Wd → Prop} : Stp (wSeq te ρ w N) (te ρ w fun x w1 => onSeq x fun ds => N ds w1) := ⟨x_seqI⟩
instance s_sql {N : List PV → Prop} : Stp (onSeq (.lst ds) N) (N ds) := ⟨x_sql⟩
instance s_sqt {N : List PV → Prop} : Stp (onSeq (.tup ds) N) (N ds) := ⟨x_sqt⟩
instance s_sqz {N : List PV → Prop} : Stp (onSeq (.scr ds) N) (N ds) := ⟨x_sqz⟩
instance s_sqs {N : List PV → Prop} : Stp (onSeq (.str s) N) (N (signs s)) := ⟨x_sqs⟩
instance s_rng1 {N : List PV → Wd → Prop} : Stp (wRng1 TA ρ w N) (TA ρ w fun ds w1 => rRng1 ds fun xs => N xs w1) := ⟨x_rng1⟩
instance s_rng2 {N : List PV → Wd → Prop} : Stp (wRng2 TA ρ w N) (TA ρ w fun ds w1 => rRng2 ds fun xs => N xs w1) := ⟨x_rng2⟩
instance s_join  : Stp (wJoin ta te ρ w Q) (ta ρ w fun x w1 => onS x fun a => te ρ w1 fun y w2 => rJoin a y w2 Q) := ⟨x_join⟩
instance s_test {N : Bool → Wd → Prop} : Stp (wTest te ρ w N) (te ρ w fun z w1 => onB z fun b => N b w1) := ⟨x_test⟩
instance s_andT {N : Bool → Wd → Prop} : Stp (wAndT tA tB ρ w N) (tA ρ w fun c w1 => if c = true then tB ρ w1 N else N false w1) := ⟨x_andT⟩
instance s_orT {N : Bool → Wd → Prop} : Stp (wOrT tA tB ρ w N) (tA ρ w fun c w1 => if c = true then N true w1 else tB ρ w1 N) := ⟨x_orT⟩
instance s_notT {N : Bool → Wd → Prop} : Stp (wNotT tA ρ w N) (tA ρ w fun c w1 => N (!c) w1) := ⟨x_notT⟩
instance s_addI  : Stp (dAdd (.int i) (.int j) w Q) (Q (.int (i + j)) w) := ⟨x_addI⟩
instance s_sub  : Stp (dSub (.int i) (.int j) w Q) (Q (.int (i - j)) w) := ⟨x_sub⟩
instance s_eqI  : Stp (dEq (.int i) (.int j) w Q) (Q (.bl (decide (i = j))) w) := ⟨x_eqI⟩
instance s_neI  : Stp (dNe (.int i) (.int j) w Q) (Q (.bl (!decide (i = j))) w) := ⟨x_neI⟩
instance s_eqS  : Stp (dEq (.str s) (.str z) w Q) (Q (.bl (decide (s = z))) w) := ⟨x_eqS⟩
instance s_neS  : Stp (dNe (.str s) (.str z) w Q) (Q (.bl (!decide (s = z))) w) := ⟨x_neS⟩
instance s_eqB {c : Bool} : Stp (dEq (.bl b) (.bl c) w Q) (Q (.bl (b == c)) w) := ⟨x_eqB⟩
instance s_ltI  : Stp (dLt (.int i) (.int j) w Q) (Q (.bl (decide (i < j))) w) := ⟨x_ltI⟩
instance s_leI  : Stp (dLe (.int i) (.int j) w Q) (Q (.bl (decide (i ≤ j))) w) := ⟨x_leI⟩
instance s_gtI  : Stp (dGt (.int i) (.int j) w Q) (Q (.bl (decide (j < i))) w) := ⟨x_gtI⟩
instance s_geI  : Stp (dGe (.int i) (.int j) w Q) (Q (.bl (decide (j ≤ i))) w) := ⟨x_geI⟩
instance s_ltS  : Stp (dLt (.str s) (.str z) w Q) (Q (.bl (decide (s.cps.toList < z.cps.toList))) w) := ⟨x_ltS⟩
instance s_gtS  : Stp (dGt (.str s) (.str z) w Q) (Q (.bl (decide (z.cps.toList < s.cps.toList))) w) := ⟨x_gtS⟩
instance s_isnt  : Stp (dIs false .non .non w Q) (Q (.bl true) w) := ⟨x_isnt⟩
instance s_isB {c : Bool} : Stp (dIs false (.bl b) (.bl c) w Q) (Q (.bl (decide (b = c))) w) := ⟨x_isB⟩
instance s_isnB {c : Bool} : Stp (dIs true (.bl b) (.bl c) w Q) (Q (.bl (!decide (b = c))) w) := ⟨x_isnB⟩
instance s_lenL  : Stp (cLen [.lst ds] w Q) (Q (.int ds.length) w) := ⟨x_lenL⟩
instance s_lenT  : Stp (cLen [.tup ds] w Q) (Q (.int ds.length) w) := ⟨x_lenT⟩
instance s_lenZ  : Stp (cLen [.scr ds] w Q) (Q (.int ds.length) w) := ⟨x_lenZ⟩
instance s_abs  : Stp (cAbs [.int i] w Q) (Q (.int (if i < 0 then -i else i)) w) := ⟨x_abs⟩
instance s_max  : Stp (cMax2 [.int i, .int j] w Q) (Q (.int (if j > i then j else i)) w) := ⟨x_max⟩
instance s_min  : Stp (cMin2 [.int i, .int j] w Q) (Q (.int (if j < i then j else i)) w) := ⟨x_min⟩
instance s_intI  : Stp (cInt [.int i] w Q) (Q (.int i) w) := ⟨x_intI⟩
instance s_intB  : Stp (cInt [.bl b] w Q) (Q (.int (if b then 1 else 0)) w) := ⟨x_intB⟩
instance s_listL  : Stp (cList [.lst ds] w Q) (Q (.lst ds) w) := ⟨x_listL⟩
instance s_listT  : Stp (cList [.tup ds] w Q) (Q (.lst ds) w) := ⟨x_listT⟩
instance s_tupL  : Stp (cTuple [.lst ds] w Q) (Q (.tup ds) w) := ⟨x_tupL⟩
instance s_tupT  : Stp (cTuple [.tup ds] w Q) (Q (.tup ds) w) := ⟨x_tupT⟩
instance s_iTrue  : Stp (if True then A else B) (A) := ⟨x_iTrue⟩
instance s_iFalse  : Stp (if False then A else B) (B) := ⟨x_iFalse⟩
variable {kvs : List (Key × PV)} {tf : WE} {dz : PV} {ni nj nl : Nat}
instance s_getC : Stp (wGetC kvs te tf ρ w Q) (te ρ w fun y w1 => tf ρ w1 fun z w2 => rGetC kvs y z w2 Q) := ⟨x_getC⟩
instance s_rgetS : Stp (rGetC kvs (.str s) dz w Q) (Q ((valP kvs (.inr s)).getD dz) w) := ⟨x_rgetS⟩
instance s_rgetI : Stp (rGetC kvs (.int i) dz w Q) (Q ((valP kvs (.inl i)).getD dz) w) := ⟨x_rgetI⟩
instance s_ixD : Stp (wIxD kvs te ρ w Q) (te ρ w fun y w1 => rIxD kvs y w1 Q) := ⟨x_ixD⟩
instance s_par : Stp (wPar ni nj TA D ρ w) (TA ρ w fun ds w1 => onPar ni nj D ρ ds w1) := ⟨x_par⟩
instance s_par3 : Stp (wPar3 ni nj nl TA D ρ w) (TA ρ w fun ds w1 => onPar3 ni nj nl D ρ ds w1) := ⟨x_par3⟩
instance s_onPar : Stp (onPar ni nj D ρ [x, y] w) (D.nx ((ρ.set ni (some x)).set nj (some y)) w) := ⟨x_onPar⟩
instance s_onPar3 : Stp (onPar3 ni nj nl D ρ [x, y, dz] w) (D.nx (((ρ.set ni (some x)).set nj (some y)).set nl (some dz)) w) := ⟨x_onPar3⟩
end
end Pd

/-! keys that are tuples of any depth: hash, equality, quiet -/
namespace Pd
open PySem L2
noncomputable instance decPV : DecidableEq PV := fun a b => Classical.propDecidable (a = b)
mutual
theorem hk_pl : ∀ {d : PV}, d.hk = true → d.pl = true
  | .non, _ => by simp [PV.pl]
  | .int _, _ => by simp [PV.pl]
  | .str _, _ => by simp [PV.pl]
  | .tup xs, h => by simp only [PV.pl]; exact hks_pls (by simpa [PV.hk] using h)
  | .bl _, h => by simp [PV.hk] at h
  | .lst _, h => by simp [PV.hk] at h
  | .scr _, h => by simp [PV.hk] at h
  | .ref _, h => by simp [PV.hk] at h
  | .ty _, h => by simp [PV.hk] at h
theorem hks_pls : ∀ {ds : List PV}, PV.hks ds = true → PV.pls ds = true
  | [], _ => by simp [PV.pls]
  | d :: r, h => by
    have h' : d.hk = true ∧ PV.hks r = true := by simpa [PV.hks] using h
    simp [PV.pls, hk_pl h'.1, hks_pls h'.2]
end
mutual
theorem eqb_eq : ∀ {x y : PV}, x.hk = true → y.hk = true → PV.eqb x y = true → x = y
  | .non, .non, _, _, _ => rfl
  | .int i, .int j, _, _, h => by simp [PV.eqb] at h; rw [h]
  | .str i, .str j, _, _, h => by simp [PV.eqb] at h; rw [h]
  | .tup xs, .tup ys, h1, h2, h => by
    have e : xs = ys := eqbs_eq (by simpa [PV.hk] using h1) (by simpa [PV.hk] using h2) (by simpa [PV.eqb] using h)
    rw [e]
  | .non, .int _, _, _, h => by simp [PV.eqb] at h
  | .non, .str _, _, _, h => by simp [PV.eqb] at h
  | .non, .tup _, _, _, h => by simp [PV.eqb] at h
  | .int _, .non, _, _, h => by simp [PV.eqb] at h
  | .int _, .str _, _, _, h => by simp [PV.eqb] at h
  | .int _, .tup _, _, _, h => by simp [PV.eqb] at h
  | .str _, .non, _, _, h => by simp [PV.eqb] at h
  | .str _, .int _, _, _, h => by simp [PV.eqb] at h
  | .str _, .tup _, _, _, h => by simp [PV.eqb] at h
  | .tup _, .non, _, _, h => by simp [PV.eqb] at h
  | .tup _, .int _, _, _, h => by simp [PV.eqb] at h
  | .tup _, .str _, _, _, h => by simp [PV.eqb] at h
  | .bl _, _, h, _, _ => by simp [PV.hk] at h
  | .lst _, _, h, _, _ => by simp [PV.hk] at h
  | .scr _, _, h, _, _ => by simp [PV.hk] at h
  | .ref _, _, h, _, _ => by simp [PV.hk] at h
  | .ty _, _, h, _, _ => by simp [PV.hk] at h
  | _, .bl _, _, h, _ => by simp [PV.hk] at h
  | _, .lst _, _, h, _ => by simp [PV.hk] at h
  | _, .scr _, _, h, _ => by simp [PV.hk] at h
  | _, .ref _, _, h, _ => by simp [PV.hk] at h
  | _, .ty _, _, h, _ => by simp [PV.hk] at h
theorem eqbs_eq : ∀ {xs ys : List PV}, PV.hks xs = true → PV.hks ys = true → PV.eqbs xs ys = true → xs = ys
  | [], [], _, _, _ => rfl
  | [], _ :: _, _, _, h => by simp [PV.eqbs] at h
  | _ :: _, [], _, _, h => by simp [PV.eqbs] at h
  | x :: xs, y :: ys, h1, h2, h => by
    have h1' : x.hk = true ∧ PV.hks xs = true := by simpa [PV.hks] using h1
    have h2' : y.hk = true ∧ PV.hks ys = true := by simpa [PV.hks] using h2
    have h' : PV.eqb x y = true ∧ PV.eqbs xs ys = true := by simpa [PV.eqbs] using h
    rw [eqb_eq h1'.1 h2'.1 h'.1, eqbs_eq h1'.2 h2'.2 h'.2]
end
theorem eqb_dec {x y : PV} (h1 : x.hk = true) (h2 : y.hk = true) : PV.eqb x y = decide (x = y) := by
  by_cases e : x = y
  · subst e; rw [decide_eq_true rfl]; exact PV.eqb_refl x (hk_pl h1)
  · rw [decide_eq_false e]
    cases q : PV.eqb x y with
    | false => rfl
    | true => exact (e (eqb_eq h1 h2 q)).elim
/-- how many tokens a hash takes -/
def drw : PV → Nat
  | .tup xs => drws xs + 1
  | _ => 1
where drws : List PV → Nat
  | [] => 0
  | x :: xs => drw x + drws xs
theorem hashs_len (W : World) : ∀ ds : List PV, (pvHashs W ds).length = ds.length
  | [] => rfl
  | d :: r => by simp [pvHashs, hashs_len W r]
section
variable {prog : Program} {w : World} {A : Around} {E : Value → Shared → Prop} {s : Shared}
theorem pyHash_none {Q : Int → Shared → Prop} (h : Q 0xFCA86420 { s with toks := s.toks + 1 }) : wpAny (model prog w) A (pyHash .none) Q E s := by
  unfold pyHash
  have hv : [Value.none].any Value.onHeap = false := rfl
  refine wpAny_bind ?_
  rw [cRoomFor, if_neg (by rw [hv]; exact Bool.false_ne_true)]; refine wpAny_pure ?_
  refine wpAny_bind (wpAny_specialOf (typeIs_none s) F.slot_NoneType_hash.lookup ?_)
  show wpAny _ _ (if (some (Value.builtin "NoneType.__hash__") == some Value.none) = true then _ else _) Q E s
  rw [if_neg (by rw [beq_builtin_none]; exact Bool.false_ne_true)]
  refine wpAny_bind (wpAny_specialOf (typeIs_none s) F.slot_NoneType_hash.lookup ?_)
  show wpAny _ _ (callSpecialIfBoundUnlessNone? .none "__hash__" _ >>= _) Q E s
  refine wpAny_bind (wpAny_callSpecialIfBoundUnlessNone?_slot (typeIs_none s) F.slot_NoneType_hash
    (wpAny_call_entry F.slot_NoneType_hash (typeIs_none s) F.entry_NoneType_hash
      (show wpAny _ _ (do ret (← mkInt 0xFCA86420)) _ _ s from wpAny_ret_mkInt ?_) (F.args_NoneType_hash_1 _)))
  show wpAny _ _ (if (decide (-(2 : Int) ^ 63 ≤ 0xFCA86420) && decide ((0xFCA86420 : Int) < 2 ^ 63)) = true then _ else _) Q E _
  rw [if_pos (by decide)]
  exact wpAny_pure h
theorem rv_tuple {h : Heap} {a : Addr} {us : Array Value} (x : h.IsTuple a us) : ∃ o n, h.get? a = some o ∧ o.cls = .type "tuple" ∧ o.data = .seq us n := by
  obtain ⟨o, h1, h2, n, h3⟩ := x
  exact ⟨o, n, h1, h2, h3⟩
theorem hashs_app (W : World) : ∀ ds es : List PV, pvHashs W (ds ++ es) = pvHashs W ds ++ pvHashs W es
  | [], _ => by simp [pvHashs]
  | d :: r, es => by simp [pvHashs, hashs_app W r es]
theorem drws_app : ∀ ds es : List PV, drw.drws (ds ++ es) = drw.drws ds + drw.drws es
  | [], _ => by simp [drw.drws]
  | d :: r, es => by simp [drw.drws, drws_app r es]; omega
theorem hks_mem : ∀ {ds : List PV}, PV.hks ds = true → ∀ d ∈ ds, d.hk = true
  | [], _, d, hd => by cases hd
  | x :: xs, h, d, hd => by
    have h' : x.hk = true ∧ PV.hks xs = true := by simpa [PV.hks] using h
    rcases List.mem_cons.mp hd with rfl | hd
    · exact h'.1
    · exact hks_mem h'.2 d hd
theorem deps_mem : ∀ {ds : List PV} {d : PV}, d ∈ ds → d.dep ≤ PV.deps ds
  | [], d, hd => by cases hd
  | x :: xs, d, hd => by
    simp only [PV.deps]
    rcases List.mem_cons.mp hd with rfl | hd
    · exact Nat.le_max_left _ _
    · exact Nat.le_trans (deps_mem hd) (Nat.le_max_right _ _)
mutual
theorem pyHash_rv : ∀ (d : PV) (A : Around) (s : Shared) (u : Value) (Q : Int → Shared → Prop) (E : Value → Shared → Prop), d.hk = true → Rv s.heap u d → A.units + d.dep < cLine → Q (pvHash w d) { s with toks := s.toks + drw d } → wpAny (model prog w) A (pyHash u) Q E s
  | .non, A, s, _, Q, E, _, r, _, h => by
    cases r
    exact pyHash_none (by simpa [pvHash, drw] using h)
  | .int i, A, s, _, Q, E, _, r, _, h => by
    cases r
    exact wpAny_pyHash_int (by simpa [pvHash, drw] using h)
  | .str x, A, s, _, Q, E, _, r, _, h => by
    cases r
    exact wpAny_pyHash_str (by simpa [pvHash, drw] using h)
  | .tup ds, A, s, _, Q, E, hk, r, hu, h => by
    cases r with
    | @tup a us _ hl hr =>
      have hks : PV.hks ds = true := by simpa [PV.hk] using hk
      have hu' : A.units + PV.deps ds + 1 < cLine := by simp only [PV.dep] at hu; omega
      have ih := pyHash_rvs ds
      obtain ⟨o, n, ho, hc, hd⟩ := rv_tuple hl
      have hT : s.TypeIs (.ref a) "tuple" := ⟨o, ho, hc⟩
      unfold pyHash
      unfold pyHashByItsType
      refine wpAny_bind (wpAny_cRoomFor_or (.inr (by omega)) ?_)
      refine wpAny_bind (wpAny_specialOf hT F.slot_tuple_hash.lookup ?_)
      show wpAny _ _ (if (some (Value.builtin "tuple.__hash__") == some Value.none) = true then _ else _) Q E s
      rw [if_neg (by rw [beq_builtin_none]; exact Bool.false_ne_true)]
      refine wpAny_bind (wpAny_specialOf hT F.slot_tuple_hash.lookup ?_)
      show wpAny _ _ (callSpecialIfBoundUnlessNone? (.ref a) "__hash__" _ >>= _) Q E s
      refine wpAny_bind (wpAny_callSpecialIfBoundUnlessNone?_slot hT F.slot_tuple_hash (wpAny_call_entry F.slot_tuple_hash hT F.entry_tuple_hash ?_ (F.args_tuple_hash_1 _)))
      show wpAny _ _ (Builtin.Tuple.tupleItemsOf (.ref a) >>= _) _ _ s
      refine wpAny_bind (wpAny_tupleItemsOf ho hd ?_)
      refine wpAny_bind ?_
      rw [← Array.forIn_toList]
      refine wpAny_forIn_list _
        (fun rest (b : Array Int) s' => ∃ done left, ds = done ++ left ∧ RvAll s.heap rest left ∧ b.toList = pvHashs w done ∧ s' = { s with toks := s.toks + drw.drws done })
        _ ?_ ?_ _ _ ⟨[], ds, rfl, by simpa using hr, by simp [pvHashs], by simp [drw.drws]⟩
      · rintro x rest b s' ⟨done, left, e0, hl, hb, rfl⟩
        cases hl with
        | @cons _ _ k ks' h1 hl' =>
          have hm : k ∈ ds := by rw [e0]; simp
          refine wpAny_bind (ih k hm _ { s with toks := s.toks + drw.drws done } x _ _ (hks_mem hks k hm) h1 (by have := deps_mem hm; show A.units + 1 + k.dep < cLine; omega) ?_)
          refine wpAny_pure ⟨done ++ [k], ks', by simp [e0], hl', by simp [hb, hashs_app, pvHashs], by simp [drws_app, drw.drws, Nat.add_assoc]⟩
      · rintro b s' ⟨done, left, e0, hl, hb, rfl⟩
        cases hl
        rw [List.append_nil] at e0
        subst e0
        have h' : Q (reduceHash (Builtin.Tuple.tupleHashOf (pvHashs w ds))) { s with toks := s.toks + (drw.drws ds + 1) } := by simpa [pvHash, drw] using h
        show wpAny _ _ (retInt (Builtin.Tuple.tupleHashOf b.toList)) _ _ _
        rw [hb]
        refine wpAny_ret_mkInt ?_
        show wpAny _ _ (if (decide (-(2 : Int) ^ 63 ≤ Builtin.Tuple.tupleHashOf (pvHashs w ds)) && decide (Builtin.Tuple.tupleHashOf (pvHashs w ds) < 2 ^ 63)) = true then _ else _) Q E _
        unfold reduceHash at h'
        by_cases hr : (decide (-(2 : Int) ^ 63 ≤ Builtin.Tuple.tupleHashOf (pvHashs w ds)) && decide (Builtin.Tuple.tupleHashOf (pvHashs w ds) < 2 ^ 63)) = true
        · rw [if_pos hr]
          rw [if_pos hr] at h'
          exact wpAny_pure (by simpa [Nat.add_assoc] using h')
        · rw [if_neg hr]
          rw [if_neg hr] at h'
          exact wpAny_bind (wpAny_rule (wpAny_pure (by simpa [Nat.add_assoc] using h')))
  | .bl _, _, _, _, _, _, h, _, _, _ => by simp [PV.hk] at h
  | .lst _, _, _, _, _, _, h, _, _, _ => by simp [PV.hk] at h
  | .scr _, _, _, _, _, _, h, _, _, _ => by simp [PV.hk] at h
  | .ref _, _, _, _, _, _, h, _, _, _ => by simp [PV.hk] at h
  | .ty _, _, _, _, _, _, h, _, _, _ => by simp [PV.hk] at h
theorem pyHash_rvs : ∀ (ds : List PV) (d : PV), d ∈ ds → ∀ (A : Around) (s : Shared) (u : Value) (Q : Int → Shared → Prop) (E : Value → Shared → Prop), d.hk = true → Rv s.heap u d → A.units + d.dep < cLine → Q (pvHash w d) { s with toks := s.toks + drw d } → wpAny (model prog w) A (pyHash u) Q E s
  | [], d, hd => nomatch hd
  | x :: xs, d, hd => by
    by_cases e : d = x
    · rw [e]; exact pyHash_rv x
    · exact pyHash_rvs xs d (by rcases List.mem_cons.mp hd with q | q; exact (e q).elim; exact q)
end
mutual
theorem quiet_rv : ∀ (d : PV) (n : Nat) (A : Around) (s : Shared) (u : Value) (Q : Bool → Shared → Prop) (E : Value → Shared → Prop), d.hk = true → Rv s.heap u d → d.dep ≤ n → Q true s → wpAny (model prog w) A (eqIsQuiet n u) Q E s
  | .non, n, A, s, _, Q, E, _, r, _, h => by
    cases r
    rw [eqIsQuiet_byValue n rfl]; exact wpAny_pure h
  | .int i, n, A, s, _, Q, E, _, r, _, h => by
    cases r
    rw [eqIsQuiet_byValue n rfl]; exact wpAny_pure h
  | .str x, n, A, s, _, Q, E, _, r, _, h => by
    cases r
    rw [eqIsQuiet_byValue n rfl]; exact wpAny_pure h
  | .tup ds, n, A, s, _, Q, E, hk, r, hu, h => by
    cases r with
    | @tup a us _ hl hr =>
      have hks : PV.hks ds = true := by simpa [PV.hk] using hk
      have ih := quiet_rvs ds
      obtain ⟨o, m, ho, hc, hd⟩ := rv_tuple hl
      have hT : s.TypeIs (.ref a) "tuple" := ⟨o, ho, hc⟩
      obtain ⟨n, rfl⟩ : ∃ k, n = k + 1 := ⟨n - 1, by simp only [PV.dep] at hu; omega⟩
      have hu' : PV.deps ds ≤ n := by simp only [PV.dep] at hu; omega
      unfold eqIsQuiet
      refine wpAny_bind (wpAny_specialOf hT F.slot_tuple_eq.lookup ?_)
      show wpAny _ _ (isInstance (.ref a) (.type "tuple") >>= _) _ _ s
      refine wpAny_bind (wpAny_isInstance hT isSubtype_tuple_tuple ?_)
      simp only [Bool.not_true, Bool.false_eq_true, if_false]
      refine wpAny_bind (wpAny_seqItems ho hd ?_)
      refine wpAny_bind ?_
      show wpAny _ _ (forIn _ _ _) _ _ s
      rw [← Array.forIn_toList]
      refine wpAny_forIn_list _ (fun rest r s' => r.1 = none ∧ s' = s ∧ ∃ left, (∀ d ∈ left, d ∈ ds) ∧ RvAll s.heap rest left) _ ?_ ?_ _ _ ⟨rfl, rfl, ds, fun _ h => h, by simpa using hr⟩
      · rintro v rest r s' ⟨hr0, rfl, left, hm, hl⟩
        cases hl with
        | @cons _ _ k ks' h1 hl' =>
          have hkm := hm k (List.mem_cons_self ..)
          refine wpAny_bind (ih k hkm n _ _ v _ _ (hks_mem hks k hkm) h1 (by have := deps_mem hkm; omega) ?_)
          simp only [Bool.not_true, Bool.false_eq_true, if_false]
          exact wpAny_pure ⟨rfl, rfl, ks', fun d hd => hm d (List.mem_cons_of_mem _ hd), hl'⟩
      · rintro ⟨r1, r2⟩ s' ⟨hr0, rfl, _⟩
        simp only at hr0
        subst hr0
        exact wpAny_pure h
  | .bl _, _, _, _, _, _, _, h, _, _, _ => by simp [PV.hk] at h
  | .lst _, _, _, _, _, _, _, h, _, _, _ => by simp [PV.hk] at h
  | .scr _, _, _, _, _, _, _, h, _, _, _ => by simp [PV.hk] at h
  | .ref _, _, _, _, _, _, _, h, _, _, _ => by simp [PV.hk] at h
  | .ty _, _, _, _, _, _, _, h, _, _, _ => by simp [PV.hk] at h
theorem quiet_rvs : ∀ (ds : List PV) (d : PV), d ∈ ds → ∀ (n : Nat) (A : Around) (s : Shared) (u : Value) (Q : Bool → Shared → Prop) (E : Value → Shared → Prop), d.hk = true → Rv s.heap u d → d.dep ≤ n → Q true s → wpAny (model prog w) A (eqIsQuiet n u) Q E s
  | [], d, hd => nomatch hd
  | x :: xs, d, hd => by
    by_cases e : d = x
    · rw [e]; exact quiet_rv x
    · exact quiet_rvs xs d (by rcases List.mem_cons.mp hd with q | q; exact (e q).elim; exact q)
end
mutual
theorem Rv.keeps {h h' : Heap} {c : Addr} {o : Obj} {es ep} (ho : h.get? c = some o) (hd : o.data = .dict es ep) (hs : Heap.SameBut c h h') : ∀ {u : Value} {d : PV}, d.hk = true → Rv h u d → Rv h' u d
  | _, _, _, .non => .non
  | _, _, _, .bl b => .bl b
  | _, _, _, .int i t => .int i t
  | _, _, _, .str x t => .str x t
  | _, .tup ds, hk, .tup (a := a) hl hr => by
    obtain ⟨o', n, h1, h2, h3⟩ := rv_tuple hl
    have ne : a ≠ c := by
      rintro rfl
      obtain rfl : o' = o := Option.some.inj (h1.symm.trans ho)
      rw [hd] at h3; exact nomatch h3
    exact .tup ⟨o', (hs.2 a ne).trans h1, h2, n, h3⟩ (RvAll.keeps ho hd hs (by simpa [PV.hk] using hk) hr)
  | _, _, hk, .lst _ _ => by simp [PV.hk] at hk
theorem RvAll.keeps {h h' : Heap} {c : Addr} {o : Obj} {es ep} (ho : h.get? c = some o) (hd : o.data = .dict es ep) (hs : Heap.SameBut c h h') : ∀ {us : List Value} {ds : List PV}, PV.hks ds = true → RvAll h us ds → RvAll h' us ds
  | _, _, _, .nil => .nil
  | _, _ :: _, hk, .cons r rr => by
    have hk' := hk
    simp only [PV.hks, Bool.and_eq_true] at hk'
    exact .cons (Rv.keeps ho hd hs hk'.1 r) (RvAll.keeps ho hd hs hk'.2 rr)
end
end
noncomputable def pvKind (prog : Program) (w : World) : HeapKind prog w PV where
  is := fun h k a => k.hk = true ∧ k.dep ≤ 8 ∧ Rv h (.ref a) k
  hash := pvHash w
  draws := drw
  room := fun A => A.units + 64 < cLine
  inj := fun hx hy => Rv.uniq hx.2.2 hy.2.2
  keeps := fun x ho hd hs => ⟨x.1, x.2.1, Rv.keeps ho hd hs x.1 x.2.2⟩
  pyHash := fun hu hk h => pyHash_rv _ _ _ _ _ _ hk.1 hk.2.2 (by have := hk.2.1; omega) h
  eqBool := fun {A E s x y a b Q} hu hx hy h => by
    have z := eqAt_rv x y A s (.ref a) (.ref b) hx.2.2 hy.2.2 (hk_pl hx.1) (hk_pl hy.1) (by have := Nat.min_le_left x.dep y.dep; have := hx.2.1; omega)
    rw [eqb_dec hx.1 hy.1] at z
    exact z _ _ _ _ h
  quiet := fun hk h => quiet_rv _ _ _ _ _ _ _ hk.1 hk.2.2 hk.2.1 h
end Pd

/-! dicts with deep keys as data; a list that is frozen, a comprehension that makes a list which may change -/
namespace Pd
open PySem L2
/-! ### tables -/
section
variable {κ β : Type} [DecidableEq κ]
def putP (kvs : List (κ × β)) (k : κ) (v : β) : List (κ × β) := if (kvs.any fun x => decide (x.1 = k)) = true then kvs.map (fun x => if x.1 = k then (x.1, v) else x) else kvs ++ [(k, v)]
def getP (kvs : List (κ × β)) (k : κ) : Option β := (kvs.find? fun x => decide (x.1 = k)).map (·.2)
end
theorem pv_obj {P : Program} {W : World} {H : Hp} {h : Heap} {a : Addr} {xs : List (PV × Addr × Value)} (D : PvDict W a xs h) : ObjOk P W H h a (.ext (PvDict W a xs)) := by
  obtain ⟨d1, d2, o, es, ep, ho, r⟩ := id D
  exact ⟨D, ⟨o, ho⟩, fun h1 h2 ⟨q1, q2, o', es', ep', ho', r'⟩ k => ⟨q1, q2, o', es', ep', k _ ho', r'⟩⟩
section
variable {X : Cx} {pos : Pos}
/-- {} -/
theorem pe_dnewP : PE X (.Dict [] [] pos) (fun _ H Q => ∀ p, H p = none → Q (.ref p) (upd H p (.ext (PvDict X.w p [])))) := ⟨fun pins s σ H Q I h =>
  wpAny_Dict_empty ⟨.ref s.heap.objs.size, _, I.laid (a := s.heap.objs.size) (o := .ext (PvDict X.w s.heap.objs.size [])) (t' := s.toks) (fun _ _ q => Heap.get?_push_of_some _ q) (Nat.le_refl _)
    (pv_obj ⟨beq_eq_false_iff_ne.mpr (Ne.symm (Nat.ne_of_lt I.big)), Nat.zero_le _, _, #[], 0, Heap.get?_push_size _ rfl, ⟨rfl, rfl, rfl⟩, rfl, rfl, List.nodup_nil⟩), rfl, h _ (I.hok.fresh (Nat.le_refl _))⟩⟩
def wDNewP : WE := fun _ w Q => ∀ p, w p = none → Q (.ref p) (wset w p (.dcp []))
/-- a new thing that may change -/
theorem post_new {K : Kz} {w : Wd} {H : Hp} {Q : WQ} {m : MO} {o : HO} {p : Addr} (k : Wk K w H) (hp : H p = none) (new : ∀ e : Ext w H (wset w p m) (upd H p o), MOk K (wset w p m) (upd H p o) p m) (q : Q (.ref p) (wset w p m)) : Post K w H Q (.ref p) (upd H p o) := by
  have e : Ext w H (wset w p m) (upd H p o) := fun b u h1 h2 => by
    have q : b ≠ p := ne_of_none h2 hp
    exact ⟨by rw [wset_ne q]; exact h1, by rw [upd_ne q]; exact h2⟩
  refine ⟨.ref p, _, e, ⟨fun a x h => ?_, fun b z => ?_⟩, .ref p, q⟩
  rotate_left
  · obtain ⟨h1, u, h2⟩ := k.zin b z
    exact ⟨(e b u h1 h2).1, u, (e b u h1 h2).2⟩
  by_cases ha : a = p
  · subst ha
    rw [wset_same] at h
    cases h
    exact new e
  · rw [wset_ne ha] at h
    have hh : upd H p o a = H a := upd_ne ha
    cases k.at_ a x h with
    | lst h1 h2 => exact .lst (hh.trans h1) (h2.ext e)
    | dct h1 h2 => exact .dct (hh.trans h1) (h2.ext e)
    | dcp h1 h2 => exact .dcp (hh.trans h1) (KpOk.ext e h2)
    | ins h1 h2 => exact .ins (hh.trans h1) (h2.ext e)
theorem de_dnewP : DE X (.Dict [] [] pos) wDNewP :=
  pe_le pe_dnewP fun σ H Q ⟨Z, ρ, w, Q', r, h, k⟩ => fun p hp => k _ _ (post_new r.wk hp (fun _ => .dcp upd_same .nil) (h p (r.wk.off hp)))
def wDNewK : WE := fun _ w Q => ∀ p, w p = none → Q (.ref p) (wset w p (.dct []))
theorem de_dnewK : DE X (.Dict [] [] pos) wDNewK :=
  pe_le pe_dnewK fun σ H Q ⟨Z, ρ, w, Q', r, h, k⟩ => fun p hp => k _ _ (post_new r.wk hp (fun _ => .dct upd_same .nil) (h p (r.wk.off hp)))
/-! what the machine says of the keys -/
abbrev pKey (k : PV) : Prop := k.hk = true ∧ k.dep ≤ 8
theorem pv_dictH {pins : List (Addr × Obj)} {σ : St} {H : Hp} {s : Shared} {Z : Addr → Prop} {w : Wd} {a : Addr} {xs : List (PV × Addr × Value)} {ds : List (PV × PV)} (I : Inv X pins σ H s) (h : H a = some (.ext (PvDict X.w a xs))) (kp : KpOk ⟨fw X, Z⟩ w H xs ds) :
    (a == sysModules) = false ∧ xs.length ≤ sizeLine ∧ s.heap.DictOfH (pvKind X.prog X.w) a xs := by
  obtain ⟨⟨d1, d2, o, es, ep, ho, hx, hd, he, hn⟩, _, _⟩ := (show ObjOk X.prog X.w H s.heap a (.ext (PvDict X.w a xs)) from I.hok a _ h)
  refine ⟨d1, d2, o, es, ep, ho, hx, hd, he, ?_, hn⟩
  have all : ∀ {l : List (PV × Addr × Value)} {m : List (PV × PV)}, KpOk ⟨fw X, Z⟩ w H l m → ∀ x ∈ l, (pvKind X.prog X.w).is s.heap x.1 x.2.1 := by
    intro l m q
    induction q with
    | nil => intro x hx; exact nomatch hx
    | @cons p q ps qs hq t ih =>
      intro x hx
      rcases List.mem_cons.mp hx with e | hx
      · subst e
        rw [hq.1]
        exact ⟨hq.2.2.1.1, hq.2.2.1.2, hq.2.1.rv I rfl (hk_pl hq.2.2.1.1)⟩
      · exact ih x hx
  exact all kp
theorem kp_len {K : Kz} {w : Wd} {H : Hp} {xs : List (PV × Addr × Value)} {ds : List (PV × PV)} (h : KpOk K w H xs ds) : xs.length = ds.length := Paired.length h
theorem kp_at {K : Kz} {w : Wd} {H : Hp} {xs : List (PV × Addr × Value)} {ds : List (PV × PV)} (h : KpOk K w H xs ds) (k : PV) : (atKey xs k = none ∧ getP ds k = none) ∨ ∃ p d v, atKey xs k = some p ∧ getP ds k = some d ∧ RelV v p.2 ∧ Dn K w H v d := by
  induction h with
  | nil => exact .inl ⟨rfl, rfl⟩
  | @cons x y xs ys hx t ih =>
    by_cases e : x.1 = k
    · have e' : y.1 = k := hx.1.symm.trans e
      obtain ⟨v, h1, h2⟩ := hx.2.2.2
      exact .inr ⟨x.2, y.2, v, by simp [atKey, List.find?_cons, e], by simp [getP, List.find?_cons, e'], h1, h2⟩
    · have e' : ¬ y.1 = k := fun z => e (hx.1.trans z)
      have b1 : atKey (x :: xs) k = atKey xs k := by simp [atKey, List.find?_cons, e]
      have b2 : getP (y :: ys) k = getP ys k := by simp [getP, List.find?_cons, e']
      rw [b1, b2]; exact ih
theorem getP_any {κ β : Type} [DecidableEq κ] (k : κ) : ∀ kvs : List (κ × β), (kvs.any fun x => decide (x.1 = k)) = (getP kvs k).isSome
  | [] => rfl
  | p :: r => by
    rw [List.any_cons]
    by_cases e : p.1 = k
    · simp [getP, List.find?_cons, e]
    · have b : getP (p :: r) k = getP r k := by simp [getP, List.find?_cons, e]
      rw [b, decide_eq_false e, Bool.false_or]; exact getP_any k r
theorem kp_put {K : Kz} {w : Wd} {H : Hp} {xs : List (PV × Addr × Value)} {ds : List (PV × PV)} (h : KpOk K w H xs ds) {k : PV} {b : Addr} {v : V} {u : Value} {d : PV} (nk : Dn K w H (.ref b) k) (pk : pKey k) (ru : RelV v u) (nv : Dn K w H v d) :
    KpOk K w H (storedH xs k b u) (putP ds k d) := by
  unfold storedH putP
  rw [getP_any]
  rcases kp_at h k with ⟨h1, h2⟩ | ⟨p, d0, v0, h1, h2, _⟩
  · rw [h1, h2]
    exact Paired.snoc h ⟨rfl, nk, pk, v, ru, nv⟩
  · rw [h1, h2]
    simp only [Option.isSome_some, if_true]
    clear h1 h2
    induction h with
    | nil => exact .nil
    | @cons x y xs ys hx t ih =>
      rw [List.map_cons, List.map_cons]
      refine .cons ?_ ih
      unfold putAt
      by_cases e : x.1 = k
      · rw [if_pos e, if_pos (hx.1.symm.trans e)]
        exact ⟨hx.1, hx.2.1, hx.2.2.1, v, ru, nv⟩
      · rw [if_neg e, if_neg (fun z => e (hx.1.trans z))]
        exact hx
/-- d[k] = v by values -/
def rSetPv (K : Fw) : V → V → V → Hp → (Hp → Prop) → Prop := fun o i v H Q => ∃ Z w a b k xs ds, o = .ref a ∧ i = .ref b ∧ H a = some (.ext (PvDict K.W a xs)) ∧ KpOk ⟨K, Z⟩ w H xs ds ∧ Dn ⟨K, Z⟩ w H (.ref b) k ∧ pKey k ∧ xs.length < sizeLine ∧ ∀ u, RelV v u → Q (upd H a (.ext (PvDict K.W a (storedH xs k b u))))
theorem storedH_len (xs : List (PV × Addr × Value)) (k : PV) (b : Addr) (u : Value) : (storedH xs k b u).length ≤ xs.length + 1 := by
  unfold storedH
  split
  · rw [List.length_map]; omega
  · rw [List.length_append, List.length_cons, List.length_nil]; omega
theorem set_pv (hu : X.A.units + 70 < cLine) : PSet X (rSetPv (fw X)) := by
  intro pins s σ H o i v ov iv u Q I ro ri rv h
  obtain ⟨Z, w, a, b, k, xs, ds, rfl, rfl, ha, kp, nk, pk, hl, q⟩ := h
  cases ro
  cases ri
  obtain ⟨d1, d2, dd⟩ := pv_dictH I ha kp
  refine wpAny_setItem_heap (hsz := d2) (knd := pvKind X.prog X.w) (by show X.A.units + 1 + 64 < cLine; omega) ⟨pk.1, pk.2, nk.rv I rfl (hk_pl pk.1)⟩ dd fun h' dd' hs => ⟨_, ?_, q u rv⟩
  obtain ⟨o, es, ep, ho, hx, hd, he, _, hn⟩ := dd'
  exact d_write I (by rw [ha]; exact True.intro) hs ⟨o, ho⟩ (pv_obj ⟨d1, by have := storedH_len xs k b u; omega, o, es, ep, ho, hx, hd, he, hn⟩)
/-- d[k] = v of a dict with ints and texts for keys -/
theorem set_dk (hu : X.A.units + 70 < cLine) : PSet X (fun o i v H Q => ∃ a kvs k, o = .ref a ∧ i = kV k ∧ H a = some (.dK kvs) ∧ kvs.length < sizeLine ∧ Q (upd H a (.dK (putK kvs k v)))) := by
  intro pins s σ H o i v ov iv u Q I ro ri rv h
  obtain ⟨a, kvs, k, rfl, rfl, ha, hl, q⟩ := h
  cases ro
  exact d_setItem (by omega) I (DPut.k ha hl) ri rv fun s' I' => ⟨_, I', q⟩
theorem pset_or {r r' : TSet} (h : PSet X r) (h' : PSet X r') : PSet X (fun o i v H Q => r o i v H Q ∨ r' o i v H Q) := by
  intro pins s σ H o i v ov iv u Q I ro ri rv q
  rcases q with q | q
  · exact h pins s σ H o i v ov iv u Q I ro ri rv q
  · exact h' pins s σ H o i v ov iv u Q I ro ri rv q
/-- data that are keys of a plain dict -/
def keyOf : PV → Option Key
  | .int i => some (.inl i)
  | .str z => some (.inr z)
  | _ => none
theorem keyOf_v {K : Kz} {w : Wd} {H : Hp} {v : V} {d : PV} {k : Key} (n : Dn K w H v d) (h : keyOf d = some k) : v = kV k := by
  cases n <;> simp [keyOf] at h
  · subst h; rfl
  · subst h; rfl
theorem kv_put {K : Kz} {w : Wd} {H : Hp} {xs : List (Key × V)} {ds : List (Key × PV)} (h : KvOk K w H xs ds) {k : Key} {v : V} {d : PV} (n : Dn K w H v d) : KvOk K w H (putK xs k v) (putP ds k d) := by
  have e : (xs.any fun kv => decide (kv.1 = k)) = (ds.any fun x => decide (x.1 = k)) := by
    unfold KvOk at h
    induction h with
    | nil => rfl
    | cons h t ih => rw [List.any_cons, List.any_cons, ih, h.1]
  unfold putK putP
  rw [e]
  split
  · rename_i hz
    unfold KvOk at h ⊢
    clear e hz
    induction h with
    | nil => exact .nil
    | @cons p q ps qs h t ih =>
      rw [List.map_cons, List.map_cons]
      refine .cons ?_ ih
      by_cases e : p.1 = k
      · rw [if_pos e, if_pos (h.1.symm.trans e)]; exact ⟨h.1, n⟩
      · rw [if_neg e, if_neg (fun z => e (h.1.trans z))]; exact h
  · exact Paired.snoc h ⟨rfl, n⟩
theorem kv_len {K : Kz} {w : Wd} {H : Hp} {κ : Type} {xs : List (κ × V)} {ds : List (κ × PV)} (h : KvOk K w H xs ds) : xs.length = ds.length := Paired.length h
/-- o[i] = d: of a list, of a dict -/
def rSubX (d o i : PV) (w2 : Wd) (Q : Wd → Prop) : Prop := match o with
  | .ref a => match w2 a with
    | some (.lst ds) => match i with
      | .int k => ∃ j, ixN ds.length k = some j ∧ Q (wset w2 a (.lst (ds.set j d)))
      | _ => False
    | some (.dct kvs) => match keyOf i with
      | some k => kvs.length < sizeLine ∧ Q (wset w2 a (.dct (putP kvs k d)))
      | none => False
    | some (.dcp kvs) => match i with
      | .tup es => pKey (.tup es) ∧ kvs.length < sizeLine ∧ Q (wset w2 a (.dcp (putP kvs (.tup es) d)))
      | _ => False
    | _ => False
  | _ => False
def wgSubX (to ti : WE) : WG := fun d ρ w Q => to ρ w fun o w1 => ti ρ w1 fun i w2 => rSubX d o i w2 fun w3 => Q ρ w3
theorem dg_subx {o i : Expr} {to ti : WE} (hu : X.A.units + 70 < cLine) (ho : DE X o to) (hi : DE X i ti)
    (ha : ∀ v, assign (.Subscript o i pos) X.env v = (do
      let ov ← holding [v] (eval o X.env)
      let iv ← holding [v, ov] (eval i X.env)
      standAt pos
      holding [v, ov, iv] (setItem ov iv v)
      release [v, ov, iv] []) := by intro _; rfl) : DG X (.Subscript o i pos) (wgSubX to ti) :=
  pg_le (pg_sub ho hi (pset_or set_list (pset_or (set_dk hu) (set_pv hu))) ha) fun v σ H Q ⟨Z, ρ, w, d, Q', r, n, h, k⟩ => up1 r h fun ov H1 od w1 e1 r1 n1 h1 => up1 r1 h1 fun iv H2 id' w2 e2 r2 n2 h2 => by
    have nv := (n.ext e1).ext e2
    have n1' := n1.ext e2
    unfold rSubX at h2
    split at h2
    · rename_i a
      cases n1'
      split at h2
      · rename_i ds e
        split at h2
        · obtain ⟨j, hj, q⟩ := h2
          cases n2
          cases r2.wk.at_ _ _ e with
          | @lst xs _ h3 h4 =>
            have ep : Ext w2 H2 (wset w2 _ (.lst (ds.set j d))) (upd H2 _ (.lst (xs.set j v))) := Ext.put e
            refine .inl ⟨_, _, _, j, rfl, rfl, h3, by rw [h4.length]; exact hj, k _ _ _ _ (e1.trans (e2.trans ep)) (r2.ext ep ?_) q⟩
            exact r2.wk.put e (.lst upd_same ((DnAll.set nv j h4).ext ep))
        · exact h2.elim
      · rename_i kvs e
        split at h2
        · rename_i kk hk
          obtain ⟨hl, q⟩ := h2
          cases keyOf_v n2 hk
          cases r2.wk.at_ _ _ e with
          | @dct xs _ h3 h4 =>
            have ep : Ext w2 H2 (wset w2 a (.dct (putP kvs kk d))) (upd H2 a (.dK (putK xs kk v))) := Ext.put e
            refine .inr (.inl ⟨_, _, kk, rfl, rfl, h3, by rw [kv_len h4]; exact hl, k _ _ _ _ (e1.trans (e2.trans ep)) (r2.ext ep ?_) q⟩)
            exact r2.wk.put e (.dct upd_same ((kv_put h4 nv).ext ep))
        · exact h2.elim
      · rename_i kvs e
        split at h2
        · rename_i es
          obtain ⟨pk, hl, q⟩ := h2
          cases n2 with
          | @tup b ys _ hT hA =>
            cases r2.wk.at_ _ _ e with
            | @dcp xs _ h3 h4 =>
              refine .inr (.inr ⟨Z, w2, a, b, _, xs, kvs, rfl, rfl, h3, h4, .tup hT hA, pk, by rw [kp_len h4]; exact hl, fun u ru => ?_⟩)
              have ep : Ext w2 H2 (wset w2 a (.dcp (putP kvs (.tup es) d))) (upd H2 a (.ext (PvDict X.w a (storedH xs (.tup es) b u)))) := Ext.put e
              refine k _ _ _ _ (e1.trans (e2.trans ep)) (r2.ext ep ?_) q
              exact r2.wk.put e (.dcp upd_same (KpOk.ext ep (kp_put h4 (.tup hT hA) pk ru nv)))
        · exact h2.elim
      · exact h2.elim
    · exact h2.elim
/-! list(d) -/
theorem call_list_pv (hc : X.calm = true) : CallR X (.type "list") (fun vs H Q => ∃ Z w d xs ds, vs = [.ref d] ∧ H d = some (.ext (PvDict X.w d xs)) ∧ KpOk ⟨fw X, Z⟩ w H xs ds ∧ ∀ p, H p = none → Q (.ref p) (upd H p (.lst (xs.map fun x => V.ref x.2.1)))) := by
  intro pins s σ H vs us Q I r h
  obtain ⟨Z, w, d, xs, ds, rfl, hd, kp, q⟩ := h
  obtain ⟨u, rfl, rx⟩ := r.one
  cases rx
  obtain ⟨d1, d2, o, es, ep, ho, hx, hdt, he, _, hn⟩ := pv_dictH I hd kp
  have l1 : es.size = xs.length := size_of_entries he
  refine PySem.W.kdl_call (kdl_raw d1 hx hdt) (I.ok.hd hc) ho (by omega) fun h' tk acc c kp' e it => ?_
  have ea : acc.toList = xs.map fun x => Value.ref x.2.1 := by
    have hl : acc.toList.length = xs.length := by rw [Array.length_toList, it.1]; exact l1
    apply List.ext_getElem?
    intro j
    rw [List.getElem?_map]
    by_cases hj : j < xs.length
    · have hja : j < acc.toList.length := by omega
      obtain ⟨en, hen, hv⟩ := it.2 j acc.toList[j] (by rw [← Array.getElem?_toList]; exact List.getElem?_eq_getElem hja)
      have qe := entry_at he j
      rw [hen, List.getElem?_eq_getElem hj] at qe
      have e2 := Option.some.inj qe
      rw [List.getElem?_eq_getElem hja, List.getElem?_eq_getElem hj, hv, e2]; rfl
    · rw [List.getElem?_eq_none (by omega), List.getElem?_eq_none (by omega)]; rfl
  have rv : Vals (xs.map fun x => V.ref x.2.1) acc.toList := by
    rw [ea, show (xs.map fun x => V.ref x.2.1) = (xs.map fun x => x.2.1).map V.ref by rw [List.map_map]; rfl, show (xs.map fun x => Value.ref x.2.1) = (xs.map fun x => x.2.1).map Value.ref by rw [List.map_map]; rfl]
    exact vals_refs _
  refine ⟨.ref s.heap.objs.size, _, I.laid (t' := tk) (o := .lst (xs.map fun x => V.ref x.2.1)) kp' (Nat.le_refl _) ?_, rfl, q _ (I.hok.fresh (Nat.le_refl _))⟩
  exact ⟨by rw [List.length_map]; exact d2, acc.toList, c, rv, by rw [Array.toArray_toList]; exact e⟩
def kD : Key → PV
  | .inl i => .int i
  | .inr z => .str z
/-- list(x): of a list, a tuple, a dict -/
def cListX : RcD := fun ds w Q => match ds with
  | [.ref a] => match w a with
    | some (.dcp kvs) => Q (.lst (kvs.map (·.1))) w
    | some (.dct kvs) => Q (.lst (kvs.map fun x => kD x.1)) w
    | some (.lst es) => Q (.lst es) w
    | _ => False
  | [.lst es] => Q (.lst es) w
  | [.tup es] => Q (.lst es) w
  | [.scr es] => Q (.lst es) w
  | _ => False
theorem kp_keys {K : Kz} {w : Wd} {H : Hp} {xs : List (PV × Addr × Value)} {ds : List (PV × PV)} (h : KpOk K w H xs ds) : DnAll K w H (xs.map fun x => V.ref x.2.1) (ds.map (·.1)) := by
  induction h with
  | nil => exact .nil
  | cons h t ih => exact .cons h.2.1 ih
theorem kv_keys {K : Kz} {w : Wd} {H : Hp} {xs : List (Key × V)} {ds : List (Key × PV)} (h : KvOk K w H xs ds) : DnAll K w H (xs.map fun x => kV x.1) (ds.map fun x => kD x.1) := by
  unfold KvOk at h
  induction h with
  | nil => exact .nil
  | @cons p q ps qs h t ih =>
    refine .cons ?_ ih
    show Dn K w H (kV p.1) (kD q.1)
    rw [h.1]
    cases q.1 with
    | inl i => exact .int i
    | inr z => exact .str z
theorem ca_listX (hc : X.calm = true) : CaD X (.type "list") cListX := by
  obtain ⟨r0, g1, g2⟩ := (ca_list (X := X)).ex
  refine ⟨_, g1.or ((call_list_pv hc).or (call_list_dK hc)), fun Z xs H ds w Q' Q k n h kq => ?_⟩
  unfold cListX at h
  split at h
  · rename_i a
    split at h
    · rename_i kvs e
      obtain ⟨v, rfl, n1⟩ := dall1 n
      cases n1
      cases k.at_ _ _ e with
      | @dcp ys _ h3 h4 => exact .inr (.inl ⟨Z, w, a, ys, kvs, rfl, h3, h4, fun p hp => kq _ _ (post_lst k hp (kp_keys h4) h)⟩)
    · rename_i kvs e
      obtain ⟨v, rfl, n1⟩ := dall1 n
      cases n1
      cases k.at_ _ _ e with
      | @dct ys _ h3 h4 => exact .inr (.inr ⟨a, ys, rfl, h3, fun p hp => kq _ _ (post_lst k hp (kv_keys h4) h)⟩)
    · rename_i es e
      exact .inl (g2 Z xs H _ w Q' Q k n (by show cList [.ref a] w Q'; unfold cList seqOf vw; simp only [e]; exact h) kq)
    · exact h.elim
  · exact .inl (g2 Z xs H _ w Q' Q k n h kq)
  · exact .inl (g2 Z xs H _ w Q' Q k n h kq)
  · exact .inl (g2 Z xs H _ w Q' Q k n h kq)
  · exact h.elim
/-! ### a list is frozen: it stands for data from then on -/
def onFrz (d : PV) (w : Wd) (Q : WQ) : Prop := match d with
  | .ref a => match w a with
    | some (.lst ds) => Q (.lst ds) (wdel w a)
    | _ => False
  | d => Q d w
def wFrz (t : WE) : WE := fun ρ w Q => t ρ w fun d w1 => onFrz d w1 Q
theorem wdel_none {w : Wd} {a b : Addr} (h : w b = none) : wdel w a b = none := by unfold wdel; split; rfl; exact h
theorem Ext.del {w : Wd} {H : Hp} (a : Addr) : Ext w H (wdel w a) H := fun b o h1 h2 => ⟨wdel_none h1, h2⟩
theorem Wk.del {K : Kz} {w : Wd} {H : Hp} (k : Wk K w H) (a : Addr) : Wk K (wdel w a) H := by
  refine ⟨fun b m h => ?_, fun b z => ⟨wdel_none (k.zin b z).1, (k.zin b z).2⟩⟩
  have hb : w b = some m := by unfold wdel at h; split at h; cases h; exact h
  have e := Ext.del (w := w) (H := H) a
  cases k.at_ b m hb with
  | lst h1 h2 => exact .lst h1 (h2.ext e)
  | dct h1 h2 => exact .dct h1 (h2.ext e)
  | dcp h1 h2 => exact .dcp h1 (KpOk.ext e h2)
  | ins h1 h2 => exact .ins h1 (h2.ext e)
theorem de_frz {e : Expr} {te : WE} (h : DE X e te) : DE X e (wFrz te) :=
  pe_le h fun σ H Q ⟨Z, ρ, w, Q', r, h, k⟩ => up1 r h fun x H1 d w1 e1 r1 n h1 => by
    cases n with
    | ref a =>
      simp only [onFrz] at h1
      split at h1
      · rename_i ds e
        cases r1.wk.at_ _ _ e with
        | lst h3 h4 =>
          have hz : ¬ Z a := fun z => by
            have q := (r1.wk.zin a z).1
            rw [e] at q; cases q
          exact k _ _ ⟨.lst ds, wdel w1 a, e1.trans (Ext.del a), r1.wk.del a, .lst ⟨by unfold wdel; rw [if_pos rfl], hz, h3⟩ (h4.ext (Ext.del a)), h1⟩
      · exact h1.elim
    | _ => exact k _ _ (post_trans e1 (post_same r1.wk (by constructor <;> assumption) h1))
end
end Pd

/-! a comprehension that makes a list which may change -/
namespace Pd
open PySem L2
section
variable {K : Fw} {Z : Addr → Prop} {w : Wd} {H : Hp} {D : Addr} {m : MO}
theorem ne_hid {a : Addr} (h : ¬ zAdd Z D a) : ¬ Z a ∧ a ≠ D := ⟨fun z => h (.inl z), fun z => h (.inr z)⟩
mutual
theorem Dn.thaw : ∀ {v : V} {d : PV}, Dn ⟨K, zAdd Z D⟩ w H v d → Dn ⟨K, Z⟩ (wset w D m) H v d
  | _, _, .non => .non
  | _, _, .bl b => .bl b
  | _, _, .int i => .int i
  | _, _, .str x => .str x
  | _, _, .ref a => .ref a
  | _, _, .ty n => .ty n
  | _, _, .tup h r => .tup (by
      rcases h with ⟨h1, h2, h3⟩ | h
      · exact .inl ⟨by rw [wset_ne (ne_hid h2).2]; exact h1, (ne_hid h2).1, h3⟩
      · exact .inr h) (DnAll.thaw r)
  | _, _, .lst h r => .lst ⟨by rw [wset_ne (ne_hid h.2.1).2]; exact h.1, (ne_hid h.2.1).1, h.2.2⟩ (DnAll.thaw r)
  | _, _, .scr h r => .scr (by
      rcases h with ⟨h1, h2, h3⟩ | h
      · exact .inl ⟨by rw [wset_ne (ne_hid h2).2]; exact h1, (ne_hid h2).1, h3⟩
      · exact .inr h) (DnAll.thaw r)
theorem DnAll.thaw : ∀ {vs : List V} {ds : List PV}, DnAll ⟨K, zAdd Z D⟩ w H vs ds → DnAll ⟨K, Z⟩ (wset w D m) H vs ds
  | _, _, .nil => .nil
  | _, _, .cons h r => .cons (Dn.thaw h) (DnAll.thaw r)
end
theorem wk_thaw {acc : List PV} {accV : List V} (k : Wk ⟨K, zAdd Z D⟩ w H) (hZ : ¬ Z D) (hH : H D = some (.lst accV)) (hn : DnAll ⟨K, zAdd Z D⟩ w H accV acc) : Wk ⟨K, Z⟩ (wset w D (.lst acc)) H := by
  refine ⟨fun a x h => ?_, fun b z => ?_⟩
  · by_cases ha : a = D
    · subst ha
      rw [wset_same] at h
      cases h
      exact .lst hH hn.thaw
    · rw [wset_ne ha] at h
      cases k.at_ a x h with
      | lst h1 h2 => exact .lst h1 h2.thaw
      | dct h1 h2 => exact .dct h1 (Paired.mapP h2 fun _ _ q => ⟨q.1, q.2.thaw⟩)
      | dcp h1 h2 => exact .dcp h1 (Paired.mapP h2 fun _ _ q => ⟨q.1, q.2.1.thaw, q.2.2.1, by obtain ⟨v, q1, q2⟩ := q.2.2.2; exact ⟨v, q1, q2.thaw⟩⟩)
      | ins h1 h2 => exact .ins h1 (Paired.mapP h2 fun _ _ q => ⟨q.1, q.2.thaw⟩)
  · have q := k.zin b (.inl z)
    have nb : b ≠ D := fun e => hZ (by rw [← e]; exact z)
    exact ⟨by rw [wset_ne nb]; exact q.1, q.2⟩
end
def wLcM (wi : WI) (g : WG) (tt : WT) (te : WE) (vs : List Nat) : WE := fun ρ w Q => wi ρ w fun ds w1 => ds.length < sizeLine ∧ compD g tt te (wipeD ρ vs) (fun acc w2 => ∀ p, w2 p = none → Q (.ref p) (wset w2 p (.lst acc))) ds [] w1
theorem lcM_up {K : Fw} {wi : WI} {g : WG} {tt : WT} {te : WE} {vs : List Nat} {σ : St} {H : Hp} {Q : VK} (h : upE K (wLcM wi g tt te vs) σ H Q) : tLc (upI K wi) (upGw K vs g) (upT K tt) (upE K te) vs σ H Q := by
  obtain ⟨Z, ρ, w, Q', r, h, k⟩ := h
  refine ⟨Z, ρ, w, _, r, h, fun J H1 ds w1 e1 k1 itd h1 => ?_⟩
  obtain ⟨hsz, h1⟩ := h1
  intro D hD
  have zx : Zx ⟨K, Z⟩ H1 (zAdd Z D) := fun b q => q.elim .inl fun e => .inr (by rw [e]; exact hD)
  have zD : (⟨K, zAdd Z D⟩ : Kz).Z D := .inr rfl
  have rp1 : Rep ⟨K, Z⟩ ρ w1 σ H1 := r.ext e1 k1
  have hDw : w1 D = none := k1.off hD
  refine ⟨fun i m H' => m = ds.length - i ∧ i ≤ ds.length ∧ ∃ acc accV w', Ext w1 H1 w' H' ∧ Wk ⟨K, zAdd Z D⟩ w' H' ∧ H' D = some (.lst accV) ∧ DnAll ⟨K, zAdd Z D⟩ w' H' accV acc ∧ acc.length ≤ i ∧ compD g tt te (wipeD ρ vs) (fun acc w2 => ∀ p, w2 p = none → Q' (.ref p) (wset w2 p (.lst acc))) (ds.drop i) acc w',
    ⟨_, rfl, Nat.zero_le _, [], [], w1, Ext.new k1 hD, k1.hid hD, upd_same, .nil, Nat.le_refl _, h1⟩, ?_⟩
  rintro i m H' ⟨rfl, hi, acc, accV, w', e', k', hH, hn, hl, hc⟩
  by_cases hlt : i < ds.length
  · refine .inr ⟨itd.go i w' H' e' hlt, fun H2 => ∃ acc accV w2, Ext w1 H1 w2 H2 ∧ Wk ⟨K, zAdd Z D⟩ w2 H2 ∧ H2 D = some (.lst accV) ∧ DnAll ⟨K, zAdd Z D⟩ w2 H2 accV acc ∧ acc.length ≤ i + 1 ∧ compD g tt te (wipeD ρ vs) (fun acc w2 => ∀ p, w2 p = none → Q' (.ref p) (wset w2 p (.lst acc))) (ds.drop (i + 1)) acc w2, ?_, ?_⟩
    · rintro H2 ⟨acc2, accV2, w2, z⟩
      exact ⟨ds.length - (i + 1), by omega, rfl, hlt, acc2, accV2, w2, z⟩
    · intro x H'' hy
      obtain ⟨d, hd, e3, k3, n3⟩ := itd.yld i w' H' x H'' (zAdd Z D) e' zx k' hlt hy
      have hdrop : ds.drop i = d :: ds.drop (i + 1) := by
        rw [List.drop_eq_getElem_cons hlt]
        rw [List.getElem?_eq_getElem hlt] at hd
        rw [Option.some.inj hd]
      rw [hdrop, compD] at hc
      have e13 := e'.trans e3
      have rp3 : Rep ⟨K, zAdd Z D⟩ (wipeD ρ vs) w' (L2.wipe σ vs) H'' :=
        ⟨by rw [wipeD_length, wipe_length]; exact r.len, fun j d' hj => by
          obtain ⟨q1, q2⟩ := wipeD_some hj
          obtain ⟨v, q3, q4⟩ := rp1.sl j d' q1
          exact ⟨v, by rw [wipe_out q2]; exact q3, (q4.hide zx).ext e13⟩, k3⟩
      refine ⟨zAdd Z D, wipeD ρ vs, w', d, _, rp3, n3, hc, fun σ4 H4 ρ4 w4 e4 r4 q4 h4 => ⟨q4.trans wipe_wipe, ?_⟩⟩
      refine upT1 r4 h4 fun b H5 w5 e5 r5 h5 => ?_
      have hDD : w' D = none := (k'.zin D zD).1
      cases b with
      | false =>
        refine iteF ⟨acc, accV, w5, e13.trans (e4.trans e5), r5.wk, ?_, hn.ext (e3.trans (e4.trans e5)), by omega, by simpa using h5⟩
        exact ((e3.trans (e4.trans e5)) D _ hDD hH).2
      | true =>
        refine iteT (up1 r5 (by simpa using h5) fun y H6 dy w6 e6 r6 n6 h6 => ?_)
        have e36 := e3.trans (e4.trans (e5.trans e6))
        refine ⟨accV, (e36 D _ hDD hH).2, by rw [hn.length]; omega, ?_⟩
        refine ⟨acc ++ [dy], accV ++ [y], w6, ?_, r6.wk.upd zD, upd_same, (hn.ext e36).append (.cons n6 .nil) |>.upd zD, by simp; omega, h6⟩
        have e16 := e'.trans e36
        intro b o q1 q2
        have nb : b ≠ D := ne_of_none q2 hD
        exact ⟨(e16 b o q1 q2).1, by rw [upd_ne nb]; exact (e16 b o q1 q2).2⟩
  · have hz : i = ds.length := by omega
    subst hz
    rw [List.drop_length, compD] at hc
    have hD0 := (k'.zin D zD).1
    have e2 : Ext w1 H1 (wset w' D (.lst acc)) H' := fun b o q1 q2 => by
      have nb : b ≠ D := ne_of_none q2 hD
      have z := e' b o q1 q2
      exact ⟨by rw [wset_ne nb]; exact z.1, z.2⟩
    refine .inl ⟨itd.stop w' H' e', k _ _ ⟨.ref D, wset w' D (.lst acc), e1.trans e2, ?_, .ref D, hc D hD0⟩⟩
    exact wk_thaw k' (k1.nz hD) hH hn
section
variable {X : Cx} {tg it elt : Expr} {te : WE} {pos : Pos}
theorem de_lcM {ifs : List Expr} {scope : Scope} {own : List (Str × Nat)} {wi : WI} {g : WG} {tt : WT} (hc : X.calm = true) (hN : X.N.Nodup) (hi : DI X tg it wi) (ok : BlkOk X.N X.env.scope scope own)
    (hg : ∀ (s : Shared) (H : Hp) (C : Addr) (cl : List (Str × Addr)) (fp : List Addr), DGw (X.blk s H scope (compEnvC scope cl C X.env) fp) (own.map (·.2)) tg g) (ht : ∀ (s : Shared) (H : Hp) (C : Addr) (cl : List (Str × Addr)) (fp : List Addr), DTs (X.blk s H scope (compEnvC scope cl C X.env) fp) ifs tt)
    (he : ∀ (s : Shared) (H : Hp) (C : Addr) (cl : List (Str × Addr)) (fp : List Addr), DE (X.blk s H scope (compEnvC scope cl C X.env) fp) elt te) (hs : ∀ x, foldedSetIterable it X.env x = pure x := by intro _; rfl) :
    DE X (.ListComp elt [⟨tg, it, ifs, 0⟩] scope pos) (wLcM wi g tt te (own.map (·.2))) :=
  pe_le (pe_lc hc hN hi ok hg ht he hs) fun _ _ _ h => lcM_up h
theorem ds_setLcM {i : Nat} {y : Str} {py spos : Pos} {ifs : List Expr} {scope : Scope} {own : List (Str × Nat)} {wi : WI} {g : WG} {tt : WT} (hc : X.calm = true) (hN : X.N.Nodup) (hy : X.N[i]? = some y) (hyl : X.env.scope.names.lookup y = some .local)
    (hsw : swapsWith (.ListComp elt [⟨tg, it, ifs, 0⟩] scope pos) (some (.Name y py)) spos.line X.env = pure true) (hi : DI X tg it wi) (ok : BlkOk X.N X.env.scope scope own)
    (hg : ∀ (s : Shared) (H : Hp) (C : Addr) (cl : List (Str × Addr)) (fp : List Addr), DGw (X.blk s H scope (compEnvC scope cl C X.env) fp) (own.map (·.2)) tg g) (ht : ∀ (s : Shared) (H : Hp) (C : Addr) (cl : List (Str × Addr)) (fp : List Addr), DTs (X.blk s H scope (compEnvC scope cl C X.env) fp) ifs tt)
    (he : ∀ (s : Shared) (H : Hp) (C : Addr) (cl : List (Str × Addr)) (fp : List Addr), DE (X.blk s H scope (compEnvC scope cl C X.env) fp) elt te) (hs : ∀ x, foldedSetIterable it X.env x = pure x := by intro _; rfl) :
    DS X (.Assign [.Name y py] (.ListComp elt [⟨tg, it, ifs, 0⟩] scope pos) spos) (wAsg (wLcM wi g tt te (own.map (·.2))) (wName i)) :=
  ps_le (ps_setLc hc hN hy hyl hsw hi ok hg ht he hs) fun D σ H ⟨Z, ρ, w, E, r, h, k⟩ => lcM_up ⟨Z, ρ, w, _, r, h, fun v H1 ⟨d, w1, e1, k1, n, h1⟩ => k.nx _ _ _ _ e1 ((r.ext e1 k1).set n i) h1⟩
end
end Pd

/-! sorted(set(xs)) of a list of ints -/
namespace Pd
open PySem L2 PyProof.Rows
/-- a set that has nothing yet -/
abbrev sOb (w : World) : Obj := { cls := .type "set", dict := none, data := .set #[] 0 (.fresh 0 0 (!w.params.followText "set-order")) }
abbrev sHp (w : World) (h : Heap) : Heap := h.push (sOb w)
section
variable {P : Program} {w : World} {A : Around} {E : Value → Shared → Prop} {s : Shared}
theorem call_setL {l : Addr} {its : Array Value} (ns : List Int) {Q : Value → Shared → Prop} (hh : A.handled = none) (hl : s.heap.IsList l its) (hit : IntsAre its.toList ns) (hb : ns.length + 1 < scanBound)
    (k : ∀ (h' : Heap) (tk c : Nat), SetR w h' s.heap.objs.size (fun j => decide (j ∈ ns)) c → c ≤ ns.length → (∀ b o, s.heap.get? b = some o → h'.get? b = some o) → Q (.ref s.heap.objs.size) { s with heap := h', toks := tk }) :
    wpAny (model P w) A (call (.type "set") [.ref l]) Q E s := by
  have hz : its.size = ns.length := by have q := IntsAre.length hit; rw [Array.length_toList] at q; exact q
  obtain ⟨_, _, hmro⟩ := F.called_set.mro
  have m1 := F.called_set.made
  have m2 := F.called_set.sub
  refine wpAny_call (codeAny_of_tree ?_)
  show wpAny _ _ (callAny (Value.type "set") _) _ _ s
  refine wpAny_pure ⟨Code.quiet_builtin _ (by decide +kernel), codeAny_builtin F.entry_type_call ?_⟩
  rw [Around.under_plain (weight_type_call_type "set" [.ref l] []) rfl]
  have m3 := F.called_set.notType
  have m4 := F.called_set.canCreate
  have m5 := F.typeCall_set_1 (.ref l)
  repeat (any_goals (first | assumption | wp_step))
  refine codeAny_mono (code_set_led1 (.ref l) (E := E) (Q₁ := fun b u => b = .ref s.heap.objs.size ∧ u = { s with heap := sHp w s.heap }) ⟨rfl, rfl⟩) fun r u hr => ?_
  cases r with
  | error e => exact hr
  | ok f =>
    cases f with
    | ret b =>
      obtain ⟨rfl, rfl⟩ := hr
      have g0 : (sHp w s.heap).get? s.heap.objs.size = some (sOb w) := Heap.get?_push_size _ rfl
      have g1 : Shared.TypeIs { s with heap := sHp w s.heap } (.ref s.heap.objs.size) "set" := ⟨_, g0, rfl⟩
      have m6 := F.called_set.init.lookup
      have m7 := F.called_set.init.bind (.ref s.heap.objs.size)
      repeat (any_goals (first | assumption | wp_step))
      refine codeAny_mono (codeAny_call_builtin (R := wants (fun r u => r = .none ∧ ∃ h' tk c, u = { s with heap := h', toks := tk } ∧ SetR w h' s.heap.objs.size (fun j => decide (j ∈ ns)) c ∧ c ≤ ns.length ∧ ∀ b o, s.heap.get? b = some o → h'.get? b = some o) E)
        F.called_set.init.plain F.entry_set_init (check_set_init_1 g1 ?_)) fun r2 u2 hr2 => ?_
      · obtain ⟨⟨oc, od, odt, osl⟩, h0, h1, nl, h2⟩ := hl
        simp only at h1 h2
        subst h1 h2
        have h3 : (sHp w s.heap).get? l = some ⟨.type "list", od, .seq its nl, osl⟩ := Heap.get?_push_of_some _ h0
        have m8 := F.sub_list_set
        have m9 := F.sub_list_frozenset
        have ma : (Value.type "list" == Value.type "dict") = false := by decide
        have hl1 : (sHp w s.heap).IsList l its := ⟨_, h3, rfl, nl, rfl⟩
        unfold Builtin.«set.__init__» noKeywords Builtin.Frozenset.updateFrom
        generalize hPI : pyIter = PI
        wp_walk
        subst hPI
        refine wpAny_pyIter_list hl1 ?_
        refine wpAny_bind (wpAny_runValue ?_)
        have lt : l < s.heap.objs.size := Heap.lt_size h0
        have sz : (sHp w s.heap).objs.size = s.heap.objs.size + 1 := Heap.size_push ..
        have ne : l ≠ (sHp w s.heap).objs.size := by rw [sz]; exact Nat.ne_of_lt (Nat.lt_succ_of_lt lt)
        have nf : s.heap.objs.size ∉ [(sHp w s.heap).objs.size, l] := by
          rw [sz]; simp only [List.mem_cons, List.not_mem_nil, or_false, not_or]
          exact ⟨Nat.ne_of_lt (Nat.lt_succ_self _), Nat.ne_of_gt lt⟩
        have hv : ∀ (i : Nat) (v : Value), its[i]? = some v → ∃ k t, ns[i]? = some k ∧ v = .int k t := fun i v hv => by
          have hi : i < ns.length := by rw [← hz]; exact (Array.getElem?_eq_some_iff.mp hv).1
          obtain ⟨t, e⟩ := IntsAre.int_at hit i v (by rw [Array.getElem?_toList]; exact hv)
          exact ⟨ns[i], t, List.getElem?_eq_getElem hi, by rw [e, List.getD_eq_getElem?_getD, List.getElem?_eq_getElem hi]; rfl⟩
        refine set_update_ints ((Walks.list (by simp [hh]) _ l ne its).toS) _ nf ns hz hb hv (its.size - 0) 0 _ (by omega) (Nat.zero_le _) ⟨⟨_, Heap.get?_push_size _ rfl, rfl, rfl⟩, hl1.push _⟩ ⟨0, Nat.le_refl 0, setR_new_at (Heap.get?_push_of_some _ g0)⟩ ?_
        intro u c hm hc hS
        obtain ⟨h', g2, d2, t2, o2⟩ := u
        obtain rfl : g2 = s.gens := hm.gens
        obtain rfl : d2 = s.drawn := hm.drawn
        obtain rfl : o2 = s.os := hm.os
        show wpAny _ _ _ _ _ _
        refine wpAny_pure ?_
        show wpAny _ _ (ret Value.none) _ _ _
        rw [hz] at hc
        refine wpAny_pure ⟨rfl, h', t2, c, rfl, hS, hc, fun b o e => ?_⟩
        have lb : b < s.heap.objs.size := Heap.lt_size e
        exact hm.heap b o (by rw [sz]; simp only [List.mem_cons, List.not_mem_nil, or_false, not_or]; exact ⟨Nat.ne_of_lt lb, Nat.ne_of_lt (Nat.lt_succ_of_lt lb)⟩) (Heap.get?_push_of_some _ (Heap.get?_push_of_some _ e))
      · cases r2 with
        | error e => exact hr2
        | ok f2 =>
          cases f2 with
          | ret r =>
            obtain ⟨rfl, h', tk, c, rfl, q1, q2, q3⟩ := hr2
            repeat (any_goals (first | assumption | wp_step))
            exact k _ _ _ q1 q2 q3
          | _ => exact hr2.elim
    | _ => exact hr.elim
end
theorem nodup_le {α : Type} [DecidableEq α] : ∀ {l m : List α}, l.Nodup → (∀ x ∈ l, x ∈ m) → l.length ≤ m.length
  | [], _, _, _ => Nat.zero_le _
  | x :: r, m, hn, hm => by
    have hx := hm x (List.mem_cons_self ..)
    rw [List.nodup_cons] at hn
    have z := nodup_le (l := r) (m := m.erase x) hn.2 fun y hy => by
      have ne : y ≠ x := fun e => hn.1 (e ▸ hy)
      exact (List.mem_erase_of_ne ne).mpr (hm y (List.mem_cons_of_mem _ hy))
    rw [List.length_erase_of_mem hx] at z
    have : 0 < m.length := List.length_pos_of_mem hx
    simp only [List.length_cons]; omega
/-- set(xs) of a list of ints -/
def rSetOfL (K : Fw) : List V → Hp → VK → Prop := fun vs H Q => ∃ (l : Addr) (ns : List Int), vs = [.ref l] ∧ SqL K.F H l (ns.map V.int) ∧ ns.length ≤ 4000 ∧ ∀ p c, H p = none → (∀ m : List Int, (∀ k ∈ ns, k ∈ m) → c ≤ m.length) → Q (.ref p) (upd H p (SetO K.W p (fun j => decide (j ∈ ns)) c))
section
variable {X : Cx}
theorem cr_setL (hc : X.calm = true) : CallR X (.type "set") (rSetOfL (fw X)) := by
  intro pins s σ H vs us Q I r h
  obtain ⟨l, ns, rfl, hl, h4, q⟩ := h
  rw [Vals.ref1 r]
  obtain ⟨its, ri, pl, hz⟩ := I.list hl
  refine call_setL ns (I.ok.hd hc) pl.isList (by simpa using intsAre_v ri) (by unfold scanBound; omega) fun h' tk c hS hcn hk => ?_
  refine ⟨.ref _, _, I.laid (t' := tk) hk (Nat.le_refl _) (setO_new hS), rfl, q _ c (I.hok.fresh (Nat.le_refl _)) fun m hm => ?_⟩
  obtain ⟨o, es, ep, t, _, _, _, _, hn, hk, _, _, hs, _⟩ := hS
  have z := nodup_le hn (m := m) fun x hx => hm x (by simpa using (hk x).mpr hx)
  rw [List.length_map, Array.length_toList, hs] at z
  exact z
where
  intsAre_v : ∀ {ns : List Int} {us : List Value}, Vals (ns.map V.int) us → IntsAre us ns
  | [], _, .nil => .nil
  | n :: ns, _, .cons r t => by
    obtain ⟨k, rfl⟩ := r
    exact .cons n k (intsAre_v t)
end
end Pd

/-! sorted(set(xs)) over data -/
namespace Pd
open PySem L2
def intsOf : List PV → Option (List Int)
  | [] => some []
  | .int i :: r => (intsOf r).map (i :: ·)
  | _ => none
theorem intsOf_map : ∀ ns : List Int, intsOf (ns.map PV.int) = some ns
  | [] => rfl
  | n :: r => by simp [intsOf, intsOf_map r]
theorem intsOf_eq : ∀ {ds : List PV} {ns : List Int}, intsOf ds = some ns → ds = ns.map PV.int
  | [], _, h => by cases h; rfl
  | .int i :: r, ns, h => by
    cases e : intsOf r with
    | none => simp [intsOf, e] at h
    | some ms =>
      have h' : i :: ms = ns := by simpa [intsOf, e] using h
      subst h'
      rw [intsOf_eq e]; rfl
  | .non :: _, _, h => by simp [intsOf] at h
  | .bl _ :: _, _, h => by simp [intsOf] at h
  | .str _ :: _, _, h => by simp [intsOf] at h
  | .tup _ :: _, _, h => by simp [intsOf] at h
  | .lst _ :: _, _, h => by simp [intsOf] at h
  | .scr _ :: _, _, h => by simp [intsOf] at h
  | .ref _ :: _, _, h => by simp [intsOf] at h
  | .ty _ :: _, _, h => by simp [intsOf] at h
theorem dn_ints_eq {K : Kz} {w : Wd} {H : Hp} : ∀ {ns : List Int} {vs : List V}, DnAll K w H vs (ns.map PV.int) → vs = ns.map V.int
  | [], _, .nil => rfl
  | n :: r, _, .cons h t => by cases h; rw [dn_ints_eq t]; rfl
/-- rising, without doubles -/
def rSortSet (x : PV) (w : Wd) (Q : WQ) : Prop := ∃ ns m : List Int, x = .lst (ns.map PV.int) ∧ ns.length ≤ 4000 ∧ (∀ k ∈ ns, k ∈ m) ∧ m.length ≤ 63 ∧ ∀ ms : List Int, ms.Pairwise (· < ·) → (∀ k, k ∈ ms ↔ k ∈ ns) → Q (.lst (ms.map PV.int)) w
def wSortSet (te : WE) : WE := fun ρ w Q => te ρ w fun x w1 => rSortSet x w1 Q
section
variable {X : Cx} {a : Expr} {ta : WE} {p p2 q pos : Pos}
theorem de_sortSet (hc : X.calm = true) (hg : Gl X "sorted") (hm : X.mg "sorted" = none) (hg2 : Gl X "set") (hm2 : X.mg "set" = none) (he : DE X a ta) (hs : starEach [a] X.env = (false, eval a X.env) :: starEach [] X.env := by rfl)
    (hs2 : starEach [.Call (.Name "set" p2) [a] [] q] X.env = (false, eval (.Call (.Name "set" p2) [a] [] q) X.env) :: starEach [] X.env := by rfl) : DE X (.Call (.Name "sorted" p) [.Call (.Name "set" p2) [a] [] q] [] pos) (wSortSet ta) := by
  have h1 := pe_callTy (p := p2) (pos := q) (cr_setL hc) hg2 hm2 (by decide +kernel) (pa_cons he pa_nil hs) (he := hs)
  have h2 := pe_callB (p := p) (pos := pos) (cr_sortedSet hc) hg hm (by decide +kernel) (pa_cons h1 pa_nil hs2) (he := hs2)
  refine pe_le h2 fun σ H Q ⟨Z, ρ, w, Q', r, h, k⟩ => ?_
  refine up1 r h fun x H1 d w1 e1 r1 n h1 => ?_
  obtain ⟨ns, m, rfl, hl, hm, hml, hq⟩ := h1
  cases n with
  | @lst l xs _ hL hA =>
    cases dn_ints_eq hA
    refine ⟨l, ns, rfl, hL.sq, by omega, fun p c hp hcn => ?_⟩
    refine ⟨p, _, c, rfl, upd_same, by have := hcn m hm; omega, fun ms b m1 m2 m3 hb => ?_⟩
    have kw := r1.wk.new (o := SetO X.w p (fun j => decide (j ∈ ns)) c) hp
    refine k _ _ (post_trans (e1.trans (Ext.new r1.wk hp)) (post_lst kw hb (dn_ints ms) (hq ms m1 fun z => ?_)))
    rw [m2 z]; exact decide_eq_true_iff
end
end Pd

/-! tuple(reversed(t)) of a tuple -/
namespace Pd
open PySem L2 PyProof.Rows RT
abbrev nL (h : Heap) : Heap := h.push { cls := .type "list", data := .seq ([] : List Value).toArray }
theorem nolen_rv : typeLookup (.type "reversed") "__len__" = pure none := by rw [typeLookup_type, builtinLookup_eq_fast]; kernel_rfl
theorem hint_rv : typeLookup (.type "reversed") "__length_hint__" = pure (some (.builtin "reversed.__length_hint__")) := by rw [typeLookup_type, builtinLookup_eq_fast]; kernel_rfl
theorem slot_rt_hint : Slot "reversed" "__length_hint__" "reversed.__length_hint__" :=
  .of (owner := "reversed") (n := "__length_hint__") (by rw [typeLookup_type, builtinLookup_eq_fast]; kernel_rfl) (by decide +kernel) (by decide +kernel) (by decide +kernel) (by first | exact .inl (by decide +kernel) | exact .inr (by decide +kernel)) (by rw [isSubtype_type]; kernel_rfl)
theorem entry_rt_hint : entryFor table "reversed.__length_hint__" = some Builtin.«reversed.__length_hint__» := entryFor_of_tree (by kernel_rfl)
theorem args_rt_hint (a : Value) : argsOk "reversed.__length_hint__" ⟨[a], []⟩ := by
  unfold argsOk; rw [signature?_of (id := "reversed.__length_hint__") (n := "__length_hint__".toList.reverse) (o := ['d', 'e', 's', 'r', 'e', 'v', 'e', 'r']) (by kernel_rfl) owner_rt]; kernel_rfl
section
variable {prog : Program} {w : World} {A : Around} {E : Value → Shared → Prop} {s : Shared} {it t : Addr} {its : Array Value}
theorem tup_push {h : Heap} (x : IsTup h t its) (k : ∀ o, h.get? t = some o → h'.get? t = some o) : IsTup h' t its := by
  obtain ⟨o, h1, r⟩ := x
  exact ⟨o, k o h1, r⟩
theorem walks_rt (hh : A.handled = none) (hne : t ≠ it) (hn : its.size ≤ sizeLine) :
    Walks prog w A it [it, t] [it] its.size (fun i v => its[its.size - 1 - i]? = some v) (fun i h => i ≤ its.size ∧ IsRt h it t ((its.size : Int) - 1 - (i : Nat)) ∧ IsTup h t its) where
  sub := fun b hb => by simp at hb; simp [hb]
  frame := fun _ _ _ st hk => ⟨st.1, st.2.1.at fun o e => hk it (by simp) o e, tup_push st.2.2 fun o e => hk t (by simp) o e⟩
  item := fun i s Q E hi st hQ => by
    have e : ((its.size : Int) - 1 - (i : Nat)) = ((its.size - 1 - i : Nat) : Int) := by omega
    have st2 := st.2.1
    rw [e] at st2
    have hx : its[its.size - 1 - i]? = some its[its.size - 1 - i] := Array.getElem?_eq_getElem (by omega)
    refine next_rt_item st2 st.2.2 hx hn fun h' r sb => hQ _ h' _ hx ⟨by omega, ?_, tup_push st.2.2 fun o e => (sb.2 t hne).trans e⟩ fun b o hb e => (sb.2 b (fun z => hb (by simp [z]))).trans e
    have e2 : ((its.size : Int) - 1 - ((i + 1 : Nat) : Int)) = ((its.size - 1 - i : Nat) : Int) - 1 := by omega
    rw [e2]; exact r
  done := fun s Q E st hQ => by
    have e : ((its.size : Int) - 1 - (its.size : Nat)) = -1 := by omega
    have st2 := st.2.1
    rw [e] at st2
    exact next_rt_end hh st2 fun h' he => hQ h' s.toks fun b o hb q => he b o (fun z => hb (by simp [z])) q
  self := fun _ _ _ _ st hQ => iter_rt st.2.1 hQ
theorem collect_rt {Q : List Value → Shared → Prop} (hh : A.handled = none) (hit : IsRt s.heap it t ((its.size : Int) - 1)) (hl : IsTup s.heap t its) (hne : t ≠ it) (hn : its.size ≤ sizeLine)
    (k : ∀ (h' : Heap) (tk : Nat) (acc : Array Value), (∀ b o, b ≠ it → s.heap.get? b = some o → h'.get? b = some o) → ItemsOf (fun i v => its[its.size - 1 - i]? = some v) acc its.size → Q acc.toList { s with heap := h', toks := tk }) :
    wpAny (model prog w) A (collect (.ref it)) Q E s := by
  have W := (walks_rt (prog := prog) (w := w) (A := A.in1) (it := it) (t := t) (its := its) hh hne hn).toS
  obtain ⟨oi, hoi, _⟩ := id hit
  obtain ⟨ol, hol, _⟩ := id hl
  have n1 : s.heap.objs.size ≠ it := Nat.ne_of_gt (Heap.lt_size hoi)
  have n2 : s.heap.objs.size ≠ t := Nat.ne_of_gt (Heap.lt_size hol)
  have n3 : s.heap.objs.size ∉ [it, t] := by simp only [List.mem_cons, List.not_mem_nil, or_false, not_or]; exact ⟨n1, n2⟩
  unfold collect
  refine wpAny_bind (wpAny_runValue (codeAny_builtin F.entry_proto_collect ?_))
  rw [Around.under_plainId F.plain_proto_collect _]
  show wpAny _ A.in1 (newList [] >>= fun b => again (.builtin "list.__iadd__" ⟨[b, .ref it], []⟩)) _ _ s
  refine wpAny_bind (wpAny_newObj_type ?_)
  refine wpAny_pure ⟨plainId_quiet F.plain_list_iadd _, codeAny_builtin F.entry_list_iadd ?_⟩
  rw [Around.under_plainId F.plain_list_iadd _]
  have g0 : (nL s.heap).get? s.heap.objs.size = some { cls := .type "list", data := .seq ([] : List Value).toArray } := Heap.get?_push_size _ rfl
  have g1 : IsRt (nL s.heap) it t ((its.size : Int) - 1) := hit.at fun o e => Heap.get?_push_of_some _ e
  have g2 : IsTup (nL s.heap) t its := tup_push hl fun o e => Heap.get?_push_of_some _ e
  have hT : ({ s with heap := nL s.heap } : Shared).TypeIs (.ref it) "reversed" := IsRt.typeIs (s := { s with heap := nL s.heap }) g1
  have g3 : Builtin.List.listSameRef (.ref s.heap.objs.size) (.ref it) = false := by simp [Builtin.List.listSameRef, n1]
  show wpAny _ A.in1 (Builtin.List.listExtendWith (.ref s.heap.objs.size) (.ref it) (.ref s.heap.objs.size)) _ _ _
  unfold Builtin.List.listExtendWith
  refine wpAny_bind (wpAny_typeOf hT ?_)
  rw [if_neg (by rw [g3]; decide)]
  refine wpAny_bind (iter_rt (s := { s with heap := nL s.heap }) g1 ?_)
  refine wpAny_bind (wpAny_holding ?_)
  unfold Builtin.List.listLengthHint
  refine wpAny_bind (wpAny_specialOf hT nolen_rv ?_)
  show wpAny _ A.in1 (specialOf (Value.ref it) (Str.ofString "__length_hint__") >>= _) _ _ _
  refine wpAny_bind (wpAny_specialOf hT hint_rv ?_)
  generalize hid : ("reversed.__length_hint__" : String) = id0
  wp_delta
  rw [show splitId id0 = some ("reversed", "__length_hint__") from by subst hid; decide +kernel]
  subst hid
  refine wpAny_bind (wpAny_isInstance (b := true) hT (by rw [isSubtype_type]; kernel_rfl) ?_)
  rw [if_neg (by decide)]
  dsimp only
  rw [if_neg (by decide +kernel)]
  refine wpAny_bind (wpAny_rule ?_)
  refine wpAny_bind (wpAny_of_eq (slot_rt_hint.bind _) ?_)
  dsimp only
  refine wpAny_bind (wpAny_attempt (wpAny_call_entry slot_rt_hint hT entry_rt_hint ?_ (args_rt_hint _)))
  obtain ⟨oi', hoi', _, hdi'⟩ := id g1
  unfold Builtin.«reversed.__length_hint__»
  refine wpAny_bind (wpAny_of_eq (a := Value.ref it) rfl ?_)
  dsimp only
  refine wpAny_bind (wpAny_field hoi' hdi' (x := .ref t) rfl ?_)
  rw [if_neg (show ¬ ((Value.ref t == Value.none) = true) from Bool.false_ne_true)]
  refine wpAny_bind (len_tuple (s := { s with heap := nL s.heap }) g2 (by rw [sizeLine_eq] at hn; omega) ?_)
  refine wpAny_bind (wpAny_of_eq (a := some ((its.size : Nat) : Int)) rfl ?_)
  dsimp only
  refine wpAny_bind (wpAny_field (s := { s with heap := nL s.heap, toks := s.toks + 1 + 1 }) hoi' hdi' (x := rawInt ((its.size : Int) - 1)) rfl ?_)
  show wpAny _ _ (if ((its.size : Nat) : Int) < (its.size : Int) - 1 + 1 then _ else _) _ _ _
  rw [if_neg (show ¬ (((its.size : Nat) : Int) < (its.size : Int) - 1 + 1) by omega)]
  refine wpAny_bind (wpAny_mkInt ?_)
  refine wpAny_pure ⟨_, rfl, ?_⟩
  have e1 : ((its.size : Int) - 1 + 1) = (its.size : Nat) := by omega
  rw [e1]
  show wpAny _ A.in1 (asInt? (.int ((its.size : Nat) : Int) _) >>= _) _ _ _
  have ea : ∀ tk : Tok, asInt? (.int ((its.size : Nat) : Int) tk) = pure (some ((its.size : Nat) : Int)) := fun tk => rfl
  rw [ea]
  with_reducible refine wpAny_bind ?_
  with_reducible refine wpAny_pure ?_
  dsimp only
  have hn' := hn
  rw [sizeLine_eq] at hn'
  have f1 : Builtin.List.listFitsIndex ((its.size : Nat) : Int) = true := by
    unfold Builtin.List.listFitsIndex
    rw [decide_eq_true (by omega), decide_eq_true (by omega)]; rfl
  have f2 : Builtin.List.listTooLong ((its.size : Nat) : Int).toNat = false := by
    unfold Builtin.List.listTooLong
    rw [Int.toNat_natCast]
    exact decide_eq_false (Nat.not_lt.mpr hn)
  rw [f1, f2, if_neg (by decide), if_neg (by omega), if_neg (by decide)]
  refine wpAny_pure ?_
  have fin : ∀ (h2 : Heap) (tk c : Nat), s.toks ≤ tk → h2.get? s.heap.objs.size = some { cls := .type "list", dict := none, data := .seq #[] c, slots := #[] } → (∀ b o, b ≠ s.heap.objs.size → (nL s.heap).get? b = some o → h2.get? b = some o) →
      wpAny (model prog w) A.in1 (again (.builtin "list.extend.loop" ⟨[.ref s.heap.objs.size, .ref it, .ref s.heap.objs.size], []⟩)) (fun f s' => match f with
        | .done f => match (Except.ok f : Except Value Flow) with
          | .ok (.ret v) => wpAny (model prog w) A (match v with
            | .ref a => do
              match (← load a).data with
              | .seq xs _ => pure xs.toList
              | _ => unsupported "internal:collect"
            | _ => unsupported "internal:collect") Q E s'
          | .ok _ => False
          | .error e => E e s'
        | .again c' => c'.quiet = true ∧ codeAny (model prog w) A c' (fun r s' => match r with
          | .ok (.ret v) => wpAny (model prog w) A (match v with
            | .ref a => do
              match (← load a).data with
              | .seq xs _ => pure xs.toList
              | _ => unsupported "internal:collect"
            | _ => unsupported "internal:collect") Q E s'
          | .ok _ => False
          | .error e => E e s') s') E { s with heap := h2, toks := tk } := by
    intro h2 tk c htk hS2 oth
    have e0 : ((its.size : Nat) : Int) - 1 - ((0 : Nat) : Int) = (its.size : Int) - 1 := by omega
    refine wpAny_pure ⟨plainId_quiet F.plain_extend_loop _, codeAny_extend_loopS W hn _ n3 _ its.size 0 _ _ _ rfl (Nat.zero_le _) ⟨Nat.zero_le _, by rw [e0]; exact g1.at fun o e => oth _ o (Ne.symm n1) e, tup_push g2 fun o e => oth _ o (Ne.symm n2) e⟩ hS2 (ItemsOf.nil _) fun u acc c hm hS hacc => ?_⟩
    show wpAny _ A (load s.heap.objs.size >>= _) _ _ u
    refine wpAny_bind (wpAny_load hS ?_)
    refine wpAny_pure ?_
    rw [Moved.eq_with hm]
    refine k u.heap u.toks acc (fun b o hb e => hm.heap b o (fun q => ?_) (oth b o (fun z => ?_) (Heap.get?_push_of_some _ e))) hacc
    · rcases List.mem_cons.mp q with q | q
      · exact absurd (Heap.lt_size e) (by rw [q]; exact Nat.lt_irrefl _)
      · exact hb (List.mem_singleton.mp q)
    · exact absurd (Heap.lt_size e) (by rw [z]; exact Nat.lt_irrefl _)
  by_cases hz : its.size = 0
  · rw [if_neg (by rw [hz]; decide)]
    exact fin _ _ 0 (by omega) g0 fun b o _ e => e
  · rw [if_pos (by have : (((its.size : Nat) : Int) != 0) = true := by simpa using hz
                   rw [this]; rfl)]
    refine wpAny_bind (wpAny_rule ?_)
    refine wpAny_bind ?_
    show wpAny _ A.in1 (updateSeq s.heap.objs.size (·.push .none) >>= fun _ => updateSeq s.heap.objs.size (·.pop)) _ _ _
    refine wpAny_bind (wpAny_updateSeq (s := { s with heap := nL s.heap, toks := s.toks + 1 + 1 + 1 }) (hz := Nat.zero_le _) (_hz' := Nat.succ_le_succ (Nat.zero_le _)) g0 rfl ?_)
    have q3 := Heap.get?_update_self (Obj.mapSeq (·.push Value.none)) g0 rfl
    refine wpAny_updateSeq (s := { s with heap := (nL s.heap).update s.heap.objs.size (Obj.mapSeq (·.push Value.none)), toks := s.toks + 1 + 1 + 1 }) (hz := Nat.succ_le_of_lt (by rw [sizeLine_eq]; decide)) (_hz' := Nat.zero_le _) q3 rfl ?_
    have q4 := Heap.get?_update_self (Obj.mapSeq (·.pop)) q3 rfl
    exact fin _ (s.toks + 1 + 1 + 1) _ (by omega) q4 fun b o hb e => (Heap.get?_update_other _ _ (Ne.symm hb)).trans ((Heap.get?_update_other _ _ (Ne.symm hb)).trans e)
theorem code_rt {Q : Value → Shared → Prop} (hh : A.handled = none) (hit : IsRt s.heap it t ((its.size : Int) - 1)) (hl : IsTup s.heap t its) (hne : t ≠ it) (hn : its.size ≤ sizeLine)
    (k : ∀ (h' : Heap) (tk : Nat) (acc : Array Value), (∀ b o, b ≠ it → s.heap.get? b = some o → h'.get? b = some o) → ItemsOf (fun i v => its[its.size - 1 - i]? = some v) acc its.size → Q (.ref h'.objs.size) { s with heap := h'.push { cls := .type "tuple", data := .seq acc }, toks := tk }) :
    codeAny (model prog w) A (.call (.builtin "tuple.__new__") ⟨[.type "tuple", .ref it], []⟩) (wants Q E) s := by
  refine codeAny_of_tree ?_
  show wpAny _ A.in1 (do checkBuiltinCall "tuple.__new__" ⟨[.type "tuple", .ref it], []⟩; again (.builtin "tuple.__new__" ⟨[.type "tuple", .ref it], []⟩)) _ _ s
  refine wpAny_bind (wpAny_of_eq (F.newCall_tuple_1 _) (wpAny_pure ⟨plainId_quiet F.plain_tuple_new _, codeAny_builtin F.entry_tuple_new ?_⟩))
  rw [Around.under_plainId F.plain_tuple_new _]
  have m1 := sub_tuple_self
  have m2 := init_tuple_lookup
  have m3 := madeHere_tuple
  have hT : s.TypeIs (.ref it) "reversed" := hit.typeIs
  have h1 : A.in1.handled = none := hh
  wp_walk using wpAny_typeOf hT, collect_rt (A := A.in1) h1 hit hl hne hn
  intro h' tk acc hk hacc
  show wpAny _ _ (Builtin.Tuple.tupleExact acc.toList.toArray >>= fun v => ret v) _ _ _
  unfold Builtin.Tuple.tupleExact
  refine wpAny_bind (wpAny_newObj_type ?_ (by show acc.toList.toArray.size ≤ sizeLine; simp only [Array.toArray_toList]; rw [hacc.1]; exact hn))
  refine wpAny_pure ?_
  rw [show acc.toList.toArray = acc by simp]
  exact k h' tk acc hk hacc
theorem call_rt {Q : Value → Shared → Prop} (hh : A.handled = none) (hit : IsRt s.heap it t ((its.size : Int) - 1)) (hl : IsTup s.heap t its) (hne : t ≠ it) (hn : its.size ≤ sizeLine)
    (k : ∀ (h' : Heap) (tk : Nat) (acc : Array Value), (∀ b o, b ≠ it → s.heap.get? b = some o → h'.get? b = some o) → ItemsOf (fun i v => its[its.size - 1 - i]? = some v) acc its.size → Q (.ref h'.objs.size) { s with heap := h'.push { cls := .type "tuple", data := .seq acc }, toks := tk }) :
    wpAny (model prog w) A (call (.type "tuple") [.ref it]) Q E s := by
  refine callType_codes (Q₁ := fun b u => u.TypeIs b "tuple" ∧ Q b u) F.called_tuple (F.typeCall_tuple_1 _) F.entry_object_init
    (code_rt (A := A.in1) hh hit hl hne hn fun h' tk acc hk hacc => ⟨⟨_, Heap.get?_push_size _ rfl, rfl⟩, k h' tk acc hk hacc⟩) fun b u hb => ?_
  exact ⟨hb.1, F.args_object_init_2 b _, object_init_meets F.called_tuple.init.lookup F.called_tuple.made (by decide) prog w A.in1 _ u ⟨hb.1, rfl, hb.2⟩⟩
end
section
variable {X : Cx}
/-- tuple(reversed(x)), x a list or a tuple -/
def tTRev (K : Frag) (te : TE) : TE := fun σ H Q => te σ H fun v H1 => ∃ (a : Addr) (xs : List V), v = .ref a ∧ (SqL K H1 a xs ∨ SqT K H1 a xs) ∧ ∀ q, H1 q = none → Q (.ref q) (upd H1 q (.tup xs.reverse))
theorem pe_tRev {e : Expr} {te : TE} {p p2 pos pos2 : Pos} (hc : X.calm = true) (hg : Gl X "tuple") (hm : X.mg "tuple" = none) (hg2 : Gl X "reversed") (hm2 : X.mg "reversed" = none) (he : PE X e te) (hs : starEach [e] X.env = (false, eval e X.env) :: starEach [] X.env := by rfl)
    (hs2 : starEach [.Call (.Name "reversed" p2) [e] [] pos2] X.env = (false, eval (.Call (.Name "reversed" p2) [e] [] pos2) X.env) :: starEach [] X.env := by rfl) :
    PE X (.Call (.Name "tuple" p) [.Call (.Name "reversed" p2) [e] [] pos2] [] pos) (tTRev X.K te) := by
  refine ⟨fun pins s σ H Q I h => ?_⟩
  refine Call_ (ld_blt I hg hm boot_tuple (PyProof.Rows.callWith_type1 (args_cons (Call_ (ld_blt I hg2 hm2 PyProof.Rows.boot_reversed (PyProof.Rows.callWith_type1 (args_cons (thn (he.run pins s σ H _ I h) fun u s1 ⟨v, H1, I1, r1, q1⟩ => args_nil ?_) hs) hs rfl))) hs2) hs2 rfl))
  obtain ⟨a, xs, rfl, hq, q⟩ := q1
  obtain rfl : u = Value.ref a := r1
  obtain ⟨f0, f1, f2, f3, f4, f5⟩ := I1.fpOk (H' := H1) (b := s1.heap.objs.size) (Nat.le_refl _) (I1.hok.fresh (Nat.le_refl _))
  rcases hq with hq | hq
  · obtain ⟨its, rv, pl, hz⟩ := I1.list hq
    have hl := pl.isList
    obtain ⟨ol, hol, _⟩ := id hl
    have ne : a ≠ s1.heap.objs.size := Nat.ne_of_lt (Heap.lt_size hol)
    have hn : its.toArray.size ≤ sizeLine := by rw [List.size_toArray, ← rv.length]; exact hz
    refine call_reversed_list hl (args_nil ?_)
    have I2 : Inv X pins σ H1 { s1 with heap := s1.heap.push (revObj a ((its.toArray.size : Int) - 1)) } := I1.kept (t' := s1.toks) fun b o e => Heap.get?_push_of_some _ e
    refine call_tuple_rev (s := { s1 with heap := s1.heap.push (revObj a ((its.toArray.size : Int) - 1)) }) (I1.ok.hd hc) ⟨_, Heap.get?_push_size _ rfl, rfl, rfl⟩ (hl.push _) ne hn fun h' tk acc hk hi => ?_
    have I3 : Inv X pins σ H1 { s1 with heap := h', toks := tk } := I2.turned (t' := tk) (fun b o hb e => hk b o hb e) f0 f1 f3 f4 f5
    refine ⟨.ref h'.objs.size, upd H1 h'.objs.size (.tup xs.reverse), I3.laid (t' := tk) (fun c o e => Heap.get?_push_of_some _ e) (Nat.le_refl _) (show ObjOk X.prog X.w _ _ _ (.tup xs.reverse) from ⟨by rw [List.length_reverse]; exact hz, acc.toList, vals_rev rv hi, ?_⟩), rfl, q _ (I3.hok.fresh (Nat.le_refl _))⟩
    rw [Array.toArray_toList]; exact IsTup.new _ _
  · obtain ⟨its, rv, pl, hz⟩ := I1.tuple hq
    obtain ⟨ol, hol, _⟩ := id pl
    have ne : a ≠ s1.heap.objs.size := Nat.ne_of_lt (Heap.lt_size hol)
    have hn : its.toArray.size ≤ sizeLine := by rw [List.size_toArray, ← rv.length]; exact hz
    refine call_reversed_tup pl (fun A E Q k => len_tuple pl (by rw [sizeLine_eq] at hn; omega) k) (args_nil ?_)
    have I2 : Inv X pins σ H1 { s1 with heap := s1.heap.push (rtObj a ((its.toArray.size : Int) - 1)), toks := s1.toks + 1 + 1 } := I1.kept (t' := s1.toks + 1 + 1) fun b o e => Heap.get?_push_of_some _ e
    refine call_rt (s := { s1 with heap := s1.heap.push (rtObj a ((its.toArray.size : Int) - 1)), toks := s1.toks + 1 + 1 }) (I1.ok.hd hc) ⟨_, Heap.get?_push_size _ rfl, rfl, rfl⟩ (tup_push pl fun o e => Heap.get?_push_of_some _ e) ne hn fun h' tk acc hk hi => ?_
    have I3 : Inv X pins σ H1 { s1 with heap := h', toks := tk } := I2.turned (t' := tk) (fun b o hb e => hk b o hb e) f0 f1 f3 f4 f5
    refine ⟨.ref h'.objs.size, upd H1 h'.objs.size (.tup xs.reverse), I3.laid (t' := tk) (fun c o e => Heap.get?_push_of_some _ e) (Nat.le_refl _) (show ObjOk X.prog X.w _ _ _ (.tup xs.reverse) from ⟨by rw [List.length_reverse]; exact hz, acc.toList, vals_rev rv hi, ?_⟩), rfl, q _ (I3.hok.fresh (Nat.le_refl _))⟩
    rw [Array.toArray_toList]; exact IsTup.new _ _
theorem dn_rev {K : Kz} {w : Wd} {H : Hp} : ∀ {vs : List V} {ds : List PV}, DnAll K w H vs ds → DnAll K w H vs.reverse ds.reverse
  | _, _, .nil => .nil
  | _, _, .cons h r => by
    rw [List.reverse_cons, List.reverse_cons]
    exact (dn_rev r).append (.cons h .nil)
def rTRev (x : PV) (w : Wd) (Q : WQ) : Prop := match x with
  | .tup ds => Q (.tup ds.reverse) w
  | .lst ds => Q (.tup ds.reverse) w
  | _ => False
def wTRev (te : WE) : WE := fun ρ w Q => te ρ w fun x w1 => rTRev x w1 Q
theorem de_tRev {e : Expr} {te : WE} {p p2 pos pos2 : Pos} (hc : X.calm = true) (hg : Gl X "tuple") (hm : X.mg "tuple" = none) (hg2 : Gl X "reversed") (hm2 : X.mg "reversed" = none) (he : DE X e te) (hs : starEach [e] X.env = (false, eval e X.env) :: starEach [] X.env := by rfl)
    (hs2 : starEach [.Call (.Name "reversed" p2) [e] [] pos2] X.env = (false, eval (.Call (.Name "reversed" p2) [e] [] pos2) X.env) :: starEach [] X.env := by rfl) :
    DE X (.Call (.Name "tuple" p) [.Call (.Name "reversed" p2) [e] [] pos2] [] pos) (wTRev te) :=
  pe_le (pe_tRev hc hg hm hg2 hm2 he hs hs2) fun σ H Q ⟨Z, ρ, w, Q', r, h, k⟩ => up1 r h fun x H1 d w1 e1 r1 n h1 => by
    cases n with
    | tup hT hA => exact ⟨_, _, rfl, .inr hT.sq, fun q hq => k _ _ (post_trans e1 (post_tup r1.wk hq (dn_rev hA) h1))⟩
    | lst hL hA => exact ⟨_, _, rfl, .inl hL.sq, fun q hq => k _ _ (post_trans e1 (post_tup r1.wk hq (dn_rev hA) h1))⟩
    | _ => exact h1.elim
end
end Pd

/-! steps of the further readings -/
namespace Pd
open PySem L2
theorem room70 {k : Nat} {A : Around} (r : Room k A) : A.units + 70 < cLine := by have := r.un; omega
section
variable {ρ : Sl} {w : Wd} {Q : WQ} {D : WEnds} {te ta to ti : WE} {tA : WT} {TA : WA} {g : WG} {d o i x y : PV} {ds es zs : List PV} {a : Addr} {wi : WI} {vs : List Nat} {tyD : PV → Wd → Prop} {rD : PV → List PV → Wd → WQ → Prop} {kvs : List (PV × PV)}
instance s_dnewP : Stp (wDNewP ρ w Q) (∀ p, w p = none → Q (.ref p) (wset w p (.dcp []))) := ⟨id⟩
instance s_dnewK : Stp (wDNewK ρ w Q) (∀ p, w p = none → Q (.ref p) (wset w p (.dct []))) := ⟨id⟩
instance s_gsubx {N : Sl → Wd → Prop} : Stp (wgSubX to ti d ρ w N) (to ρ w fun o w1 => ti ρ w1 fun i w2 => rSubX d o i w2 fun w3 => N ρ w3) := ⟨id⟩
theorem x_rsubP {N : Wd → Prop} (hw : w a = some (.dcp kvs)) (pk : pKey (.tup es)) (hl : kvs.length < sizeLine) (h : N (wset w a (.dcp (putP kvs (.tup es) d)))) : rSubX d (.ref a) (.tup es) w N := by
  unfold rSubX; simp only [hw]; exact ⟨pk, hl, h⟩
instance s_frz : Stp (wFrz te ρ w Q) (te ρ w fun d w1 => onFrz d w1 Q) := ⟨id⟩
instance s_frzL : Stp (onFrz (.lst ds) w Q) (Q (.lst ds) w) := ⟨id⟩
instance s_frzT : Stp (onFrz (.tup ds) w Q) (Q (.tup ds) w) := ⟨id⟩
instance s_frzN : Stp (onFrz .non w Q) (Q .non w) := ⟨id⟩
instance s_frzI {i : Int} : Stp (onFrz (.int i) w Q) (Q (.int i) w) := ⟨id⟩
instance s_frzB {i : Bool} : Stp (onFrz (.bl i) w Q) (Q (.bl i) w) := ⟨id⟩
instance s_frzS {i : Str} : Stp (onFrz (.str i) w Q) (Q (.str i) w) := ⟨id⟩
theorem x_frzR (hw : w a = some (.lst ds)) (h : Q (.lst ds) (wdel w a)) : onFrz (.ref a) w Q := by unfold onFrz; simp only [hw]; exact h
instance s_lcM : Stp (wLcM wi g tA te vs ρ w Q) (wi ρ w fun ds w1 => ds.length < sizeLine ∧ compD g tA te (wipeD ρ vs) (fun acc w2 => ∀ p, w2 p = none → Q (.ref p) (wset w2 p (.lst acc))) ds [] w1) := ⟨id⟩
instance s_sortSet : Stp (wSortSet te ρ w Q) (te ρ w fun x w1 => rSortSet x w1 Q) := ⟨id⟩
instance s_tRev : Stp (wTRev te ρ w Q) (te ρ w fun x w1 => rTRev x w1 Q) := ⟨id⟩
instance s_rTRevT : Stp (rTRev (.tup ds) w Q) (Q (.tup ds.reverse) w) := ⟨id⟩
instance s_rTRevL : Stp (rTRev (.lst ds) w Q) (Q (.tup ds.reverse) w) := ⟨id⟩
instance s_BM : Stp (wBM tyD rD to TA ρ w Q) (to ρ w fun x w1 => tyD x w1 ∧ TA ρ w1 fun ds w2 => rD x ds w2 Q) := ⟨id⟩
theorem x_isM {B : Prop} (hw : w a = some (.lst ds)) (h : B) : isM (.ref a) w ∧ B := ⟨by unfold isM; simp only [hw], h⟩
theorem x_app (hw : w a = some (.lst ds)) (hl : ds.length < sizeLine) (h : Q .non (wset w a (.lst (ds ++ [y])))) : mAppend (.ref a) [y] w Q := by unfold mAppend; simp only [hw]; exact ⟨hl, h⟩
theorem x_extL (hw : w a = some (.lst ds)) (hl : ds.length + zs.length ≤ sizeLine) (h : Q .non (wset w a (.lst (ds ++ zs)))) : mExtend (.ref a) [.lst zs] w Q := by unfold mExtend; simp only [hw, vw]; exact ⟨hl, h⟩
instance s_listXL : Stp (cListX [.lst ds] w Q) (Q (.lst ds) w) := ⟨id⟩
instance s_listXT : Stp (cListX [.tup ds] w Q) (Q (.lst ds) w) := ⟨id⟩
instance s_listXZ : Stp (cListX [.scr ds] w Q) (Q (.lst ds) w) := ⟨id⟩
theorem x_listP (hw : w a = some (.dcp kvs)) (h : Q (.lst (kvs.map (·.1))) w) : cListX [.ref a] w Q := by unfold cListX; simp only [hw]; exact h
instance s_chain3 {r r' r'' : R2D} {tb tc td : WE} : Stp (wChain3 r r' r'' ta tb tc td ρ w Q) (ta ρ w fun x w1 => tb ρ w1 fun y w2 => r x y w2 fun z w3 => onB z fun k => if k = true then tc ρ w3 fun u w4 => r' y u w4 fun z2 w5 => onB z2 fun k2 => if k2 = true then td ρ w5 fun v w6 => r'' u v w6 Q else Q (.bl false) w5 else Q (.bl false) w3) := ⟨x_chain3⟩
/-! a thing of the def's own that nobody needs any more is forgotten -/
def onFgt : Sl → Nat → PV → Wd → WQ → Prop
  | [], _, d, w, Q => Q d w
  | o :: _, 0, d, w, Q => match o with
    | some (.ref a) => Q d (wdel w a)
    | _ => Q d w
  | _ :: r, n + 1, d, w, Q => onFgt r n d w Q
def wFgt (n : Nat) (t : WE) : WE := fun ρ w Q => t ρ w fun d w1 => onFgt ρ n d w1 Q
theorem onFgt_or : ∀ {ρ : Sl} {n : Nat} {d : PV} {w : Wd} {Q : WQ}, onFgt ρ n d w Q → Q d w ∨ ∃ a, Q d (wdel w a)
  | [], _, _, _, _, h => .inl (by simpa [onFgt] using h)
  | o :: r, n + 1, _, _, _, h => onFgt_or (ρ := r) h
  | none :: _, 0, _, _, _, h => .inl h
  | some x :: _, 0, _, _, _, h => by
    cases x with
    | ref a => exact .inr ⟨a, h⟩
    | _ => exact .inl h
instance s_fgt {n : Nat} : Stp (wFgt n te ρ w Q) (te ρ w fun d w1 => onFgt ρ n d w1 Q) := ⟨id⟩
instance s_fgtS {n : Nat} {u : Option PV} {r : Sl} : Stp (onFgt (u :: r) (n + 1) d w Q) (onFgt r n d w Q) := ⟨id⟩
instance s_fgtR {r : Sl} : Stp (onFgt (some (.ref a) :: r) 0 d w Q) (Q d (wdel w a)) := ⟨id⟩
instance s_fgtN {r : Sl} : Stp (onFgt (none :: r) 0 d w Q) (Q d w) := ⟨id⟩
instance s_fgtL {r : Sl} : Stp (onFgt (some (.lst ds) :: r) 0 d w Q) (Q d w) := ⟨id⟩
end
theorem de_fgt {X : Cx} {e : Expr} {te : WE} (n : Nat) (h : DE X e te) : DE X e (wFgt n te) :=
  pe_le h fun σ H Q ⟨Z, ρ, w, Q', r, h, k⟩ => up1 r h fun x H1 d w1 e1 r1 n h1 => by
    rcases onFgt_or h1 with q | ⟨a, q⟩
    · exact k _ _ (post_trans e1 (post_same r1.wk n q))
    · exact k _ _ ⟨d, wdel w1 a, e1.trans (Ext.del a), r1.wk.del a, n.ext (Ext.del a), q⟩
end Pd

/-! for x in reversed(tuple) -/
namespace Pd
open PySem L2 PyProof.Rows RT
theorem itd_rvT {K : Kz} {w : Wd} {H : Hp} {a : Addr} {xs : List V} {ds : List PV} (h : Tp K w H a xs) (n : DnAll K w H xs ds) : ItD K (ItvT K.K.F a xs.length) w H ds.reverse where
  go := fun i w' H' e hi => by
    rw [List.length_reverse] at hi
    have hl := n.length
    obtain ⟨v, h1, _⟩ := n.get (List.getElem?_eq_getElem (show xs.length - 1 - i < ds.length by omega))
    exact ⟨by omega, xs, v, (h.ext e).sq, h1⟩
  yld := fun i w' H' x H'' Z' e z k hi ⟨h1, h2⟩ => by
    subst h1
    rw [List.length_reverse] at hi
    have hl := n.length
    obtain ⟨d, h3, h4⟩ := n.get' (h2 xs (h.ext e).sq)
    refine ⟨d, ?_, Ext.refl _ _, k, (h4.hide z).ext e⟩
    rw [List.getElem?_reverse hi, ← hl]; exact h3
  stop := fun w' H' e => by
    rw [List.length_reverse]
    show xs.length ≤ ds.length
    rw [n.length]; exact Nat.le_refl _
def onTup (x : PV) (k : List PV → Prop) : Prop := match x with
  | .tup ds => k ds
  | _ => False
def wRevI (te : WE) : WI := fun ρ w Q => te ρ w fun x w1 => onTup x fun ds => Q ds.reverse w1
section
variable {X : Cx} {tg e it c : Expr} {te : WE} {pos p : Pos} {ta : WA}
theorem di_rev (hg : Gl X "reversed") (hm : X.mg "reversed" = none) (he : DE X e te) (hs : starEach [e] X.env = (false, eval e X.env) :: starEach [] X.env := by rfl) : DI X tg (.Call (.Name "reversed" p) [e] [] pos) (wRevI te) :=
  pi_le (pi_revA hg hm he hs) fun σ H R ⟨Z, ρ, w, Q', r, h, k⟩ => up1 r h fun x H1 d w1 e1 r1 n h1 => by
    cases n with
    | tup hp hn => exact ⟨_, _, rfl, .inr ⟨hp.sq, k _ _ _ _ e1 r1.wk (itd_rvT hp hn) h1⟩⟩
    | _ => exact h1.elim
end
end Pd

/-! tuple * int -/
namespace Pd
open PySem PySem.Spec PyProof.Rows L2
theorem tuple_mul1 (l : Addr) (items : Array Value) (n : Nat) (dd : Option Addr) (sl : Array (Option Value)) (x : Int) (u : Tok) (c0 : (decide (x < -(2 ^ 63)) || decide (x ≥ 2 ^ 63)) = false) (c1 : (items.isEmpty || x == 1) = true) :
    Meets (Builtin.«tuple.__mul__» ⟨[.ref l, .int x u], []⟩) (fun _ R s => s.heap.get? l = some { cls := .type "tuple", dict := dd, data := .seq items n, slots := sl } ∧
      R (.ok (.ret (Value.ref l))) s) :=
  .of_wp fun prog w A R s h => by
    obtain ⟨hp, g, d, tk, os⟩ := s
    obtain ⟨hl, h⟩ := h
    have f1 := AutoSeq1.idx_int
    wp_walk using wpAny_loadPart' hl
    repeat (first
      | (refine wpAny_ite_false (decide_eq_false (by rw [c0]; exact Bool.false_ne_true)) ?_; wp_walk using wpAny_loadPart' hl)
      | (refine wpAny_ite_true (decide_eq_true (by rw [c1])) ?_; wp_walk using wpAny_loadPart' hl))
    exact ⟨_, rfl, h⟩
theorem tuple_mul0 (l : Addr) (items : Array Value) (n : Nat) (dd : Option Addr) (sl : Array (Option Value)) (x : Int) (u : Tok) (c0 : (decide (x < -(2 ^ 63)) || decide (x ≥ 2 ^ 63)) = false) (c1 : (items.isEmpty || x == 1) = false) (c2 : (decide (x ≤ 0) || items.isEmpty) = true) :
    Meets (Builtin.«tuple.__mul__» ⟨[.ref l, .int x u], []⟩) (fun _ R s => s.heap.get? l = some { cls := .type "tuple", dict := dd, data := .seq items n, slots := sl } ∧
      R (.ok (.ret (Value.ref s.heap.objs.size))) { s with heap := s.heap.push { cls := Value.type "tuple", data := Data.seq #[] }, toks := s.toks }) :=
  .of_wp fun prog w A R s h => by
    obtain ⟨hp, g, d, tk, os⟩ := s
    obtain ⟨hl, h⟩ := h
    have f1 := AutoSeq1.idx_int
    wp_walk using wpAny_loadPart' hl
    repeat (first
      | (refine wpAny_ite_false (decide_eq_false (by rw [c0]; exact Bool.false_ne_true)) ?_; wp_walk using wpAny_loadPart' hl)
      | (refine wpAny_ite_false (decide_eq_false (by rw [c1]; exact Bool.false_ne_true)) ?_; wp_walk using wpAny_loadPart' hl)
      | (refine wpAny_ite_true (decide_eq_true (by rw [c2])) ?_; wp_walk using wpAny_loadPart' hl))
    exact ⟨_, rfl, h⟩
def rRepA (K : PySem.W.Frag) : R2 := fun x y H Q => ∃ l k xs, x = .ref l ∧ y = .int k ∧ SqT K H l xs ∧ 0 ≤ k ∧ k ≤ 1000 ∧ xs.length ≤ 1000 ∧ (k = 1 ∨ xs = [] → Q (.ref l) H) ∧ (k = 0 → xs ≠ [] → ∀ p, H p = none → Q (.ref p) (upd H p (.tup []))) ∧
  (2 ≤ k → xs ≠ [] → ∀ p, H p = none → Q (.ref p) (upd H p (.tup (List.replicate k.toNat xs).flatten)))
section
variable {X : Cx}
theorem op_repA : OpR X (binaryOp .Mult) (rRepA X.K) := by
  intro pins s σ H x y v u Q I rx ry h
  obtain ⟨l, k, xs, rfl, rfl, hT, h1, h2, hz, q1, q0, q⟩ := h
  by_cases hone : k = 1 ∨ xs = []
  · cases rx
    obtain ⟨t, rfl⟩ := ry
    obtain ⟨its, r, ⟨⟨cls, dd, data, sl⟩, ho, hc, n, hd⟩, hs⟩ := I.tuple hT
    simp only at hc hd
    subst hc hd
    have hle : its.length = xs.length := r.length.symm
    have c0 : (decide (k < -(2 ^ 63)) || decide (k ≥ 2 ^ 63)) = false := by
      rw [decide_eq_false (by omega), decide_eq_false (by omega)] <;> rfl
    have c1 : (its.toArray.isEmpty || k == 1) = true := by
      rcases hone with e | e
      · subst e; simp
      · subst e
        have : its = [] := List.eq_nil_of_length_eq_zero hle
        subst this; rfl
    refine wpAny_binaryOp_repeat_ref (T := "tuple") (U := "int") (by decide) ⟨_, ho, rfl⟩ (fun s' => typeIs_int s' k t) noFill_tuple_mul F.fills_int_mul F.slot_int_rmul repeat_tuple F.slot_int_index.lookup
      (call_meets F.slot_int_rmul (typeIs_int s k t) F.entry_int_rmul (F.args_int_rmul_2 _ _) (int_rmul_tuple k t l its.toArray n dd sl)
        ⟨ho, rfl, ⟨_, ho, rfl⟩, call_meets F.slot_tuple_mul ⟨_, ho, rfl⟩ F.entry_tuple_mul (F.args_tuple_mul_2 _ _) (tuple_mul1 l its.toArray n dd sl k t c0 c1) ⟨ho, ?_⟩⟩)
    exact ⟨.ref l, H, I, rfl, q1 hone⟩
  · have hne : xs ≠ [] := fun e => hone (.inr e)
    by_cases hk : k = 0
    · cases rx
      obtain ⟨t, rfl⟩ := ry
      obtain ⟨its, r, ⟨⟨cls, dd, data, sl⟩, ho, hc, n, hd⟩, hs⟩ := I.tuple hT
      simp only at hc hd
      subst hc hd
      have hle : its.length = xs.length := r.length.symm
      have hn : its ≠ [] := fun e => hne (by
        rw [e] at hle
        exact List.eq_nil_of_length_eq_zero hle.symm)
      have hi : its.toArray.isEmpty = false := by
        cases its with
        | nil => exact absurd rfl hn
        | cons a b => rfl
      subst hk
      refine wpAny_binaryOp_repeat_ref (T := "tuple") (U := "int") (by decide) ⟨_, ho, rfl⟩ (fun s' => typeIs_int s' 0 t) noFill_tuple_mul F.fills_int_mul F.slot_int_rmul repeat_tuple F.slot_int_index.lookup
        (call_meets F.slot_int_rmul (typeIs_int s 0 t) F.entry_int_rmul (F.args_int_rmul_2 _ _) (int_rmul_tuple 0 t l its.toArray n dd sl)
          ⟨ho, rfl, ⟨_, ho, rfl⟩, call_meets F.slot_tuple_mul ⟨_, ho, rfl⟩ F.entry_tuple_mul (F.args_tuple_mul_2 _ _) (tuple_mul0 l its.toArray n dd sl 0 t (by decide) (by rw [hi]; rfl) (by rfl)) ⟨ho, ?_⟩⟩)
      refine ⟨.ref s.heap.objs.size, _, I.laid (t' := s.toks) (o := .tup []) (fun b ob q => Heap.get?_push_of_some _ q) (Nat.le_refl _) ?_, rfl, q0 rfl hne _ (I.hok.fresh (Nat.le_refl _))⟩
      exact ⟨Nat.zero_le _, [], .nil, IsTup.new _ _⟩
    · exact op_repT pins s σ H (.ref l) (.int k) v u Q I rx ry ⟨l, k, xs, rfl, rfl, hT, hne, by omega, h2, hz, q (by omega) hne⟩
end
def dMulT : R2D := fun x y w Q => match x, y with
  | .tup ds, .int k => (0 ≤ k ∧ k ≤ 1000 ∧ ds.length ≤ 1000) ∧ Q (.tup (List.replicate k.toNat ds).flatten) w
  | _, _ => False
theorem dn_rep {K : Kz} {w : Wd} {H : Hp} {vs : List V} {ds : List PV} (h : DnAll K w H vs ds) : ∀ n : Nat, DnAll K w H (List.replicate n vs).flatten (List.replicate n ds).flatten
  | 0 => .nil
  | n + 1 => by
    rw [List.replicate_succ, List.replicate_succ, List.flatten_cons, List.flatten_cons]
    exact h.append (dn_rep h n)
section
variable {X : Cx} {K : Fw} {a b c e : Expr} {ta tb tc : WE} {pos cpos : Pos}
theorem de_mulT (ha : DE X a ta) (hb : DE X b tb) : DE X (.BinOp a .Mult b pos) (wOp dMulT ta tb) := by
  refine de_op op_repA ?_ ha hb
  intro Z x y H dx dy w Q' Q k nx ny h kq
  unfold dMulT at h
  split at h
  · obtain ⟨⟨h1, h2, h3⟩, h⟩ := h
    rename_i ds n
    obtain ⟨a1, x1, rfl, hT, n1⟩ := vwT nx rfl
    cases ny
    refine ⟨a1, n, x1, rfl, rfl, hT.sq, h1, h2, by rw [n1.length]; exact h3, fun z => ?_, fun z hne p hp => ?_, fun z hne p hp => ?_⟩
    · rcases z with z | z
      · subst z
        exact kq _ _ (post_same k (.tup hT n1) (by simpa using h))
      · subst z
        cases n1
        exact kq _ _ (post_same k (.tup hT .nil) (by simpa using h))
    · subst z
      exact kq _ _ (post_tup k hp .nil (by simpa using h))
    · exact kq _ _ (post_tup k hp (dn_rep n1 _) h)
  · exact h.elim
/-- x or y, x a text or None -/
def rOrX (E : Wd → Prop) (x : PV) (w : Wd) (Q : WQ) : Prop := match x with
  | .non => E w
  | .str s => s.length ≤ sizeLine ∧ (s.length = 0 → E w) ∧ (s.length ≠ 0 → Q (.str s) w)
  | _ => False
def wOrX (ta tb : WE) : WE := fun ρ w Q => ta ρ w fun x w1 => rOrX (fun w2 => tb ρ w2 Q) x w1 Q
theorem de_orX {rest : List Expr} (ha : DE X a ta) (hb : DE X (.BoolOp .Or (b :: rest) pos) tb) : DE X (.BoolOp .Or (a :: b :: rest) pos) (wOrX ta tb) := by
  refine pe_le (pe_orT ha hb) fun σ H Q ⟨Z, ρ, w, Q', r, h, k⟩ => up1 r h fun x H1 d w1 e1 r1 n1 h1 => ?_
  unfold rOrX at h1
  split at h1
  · cases n1
    refine ⟨false, rfl, ?_⟩
    rw [if_neg (by decide)]
    refine ⟨Z, ρ, w1, Q', r1, h1, fun x2 H2 p => k _ _ (post_trans e1 p)⟩
  · rename_i s
    cases n1
    obtain ⟨hs, hE, hQ⟩ := h1
    by_cases hz : s.length = 0
    · refine ⟨false, ⟨hs, by rw [hz]; rfl⟩, ?_⟩
      rw [if_neg (by decide)]
      refine ⟨Z, ρ, w1, Q', r1, hE hz, fun x2 H2 p => k _ _ (post_trans e1 p)⟩
    · refine ⟨true, ⟨hs, ?_⟩, ?_⟩
      · have : ((s.length : Int) != 0) = true := by
          rw [bne_iff_ne]; omega
        rw [this]
      rw [if_pos rfl]
      exact k _ _ (post_trans e1 (post_same r1.wk (.str s) (hQ hz)))
  · exact h1.elim
/-- x[n].replace(y, z) of written texts -/
theorem pe_replI {i : Int} {j0 j1 j2 : Nat} {c0 c1 c2 apos : Pos} {y z : Str} {te : TE} {r : R2} (hr : IxR X r) (ha : PE X a te) (hyz : (y == z) = false := by decide)
    (hst : starEach [.Constant (.str y) j1 c1, .Constant (.str z) j2 c2] X.env = [(false, eval (.Constant (.str y) j1 c1) X.env), (false, eval (.Constant (.str z) j2 c2) X.env)] := by rfl)
    (hbase : attributeBase (.Subscript a (.Constant (.int i) j0 c0) cpos) "replace" X.env (eval (.Subscript a (.Constant (.int i) j0 c0) cpos) X.env) = eval (.Subscript a (.Constant (.int i) j0 c0) cpos) X.env := by rfl) (hline : (apos.endLine == pos.line) = true := by rfl) :
    PE X (.Call (.Attribute (.Subscript a (.Constant (.int i) j0 c0) cpos) "replace" apos) [.Constant (.str y) j1 c1, .Constant (.str z) j2 c2] [] pos) (CwR.tReplC (tOp r te (tC (.int i))) y z) := by
  refine ⟨fun pins s σ H Q I h => ?_⟩
  refine PySem.Call_method2 hbase hst hline ?_
  refine Subscript_ (thn (ha.run pins s σ H _ I h) fun v s1 ⟨x, H1, I1, r1, q1⟩ => ?_)
  refine wpAny_Constant_int ?_
  have I2 : Inv X pins σ H1 { s1 with toks := s1.toks + 1 } := I1.tok _
  refine wpAny_mono (PySem.wpAny_toks_of (n := 1) (Nat.succ_le_succ (Nat.zero_le _)) (hr a (.Constant (.int i) j0 c0) pins _ σ H1 x (.int i) v (.int i s1.toks) _ I2 r1 ⟨_, rfl⟩ q1 rfl)) (fun v2 s3 q => ?_) fun _ _ z => z.2
  obtain ⟨hk, v', H3, I3, r3, x3, e1, hb, q⟩ := q
  subst e1
  obtain ⟨tx, e2⟩ := r3
  subst e2
  refine ⟨"str", _, PySem.F.plainAttrs_str, PySem.F.slot_str_replace, PySem.F.type_str_replace, typeIs_str _ _ _, (fun _ e => nomatch e), Calls.callWith_builtin rfl (Calls.evalArgs_plain (Calls.spliced_cons ?_))⟩
  refine Calls.Constant_str (Calls.spliced_cons (Calls.Constant_str (Calls.spliced_nil ?_)))
  exact PySem.SC.replace (by show s3.toks ≠ 0; omega) (by show s3.toks + 1 ≠ 0; omega) (by show s3.toks ≠ s3.toks + 1; omega) hyz hb fun t' k => ⟨.str (Txt.replace x3 y z), H3, I3.tok k, ⟨t', rfl⟩, q⟩
def rRep (y z : Str) (x : PV) (w : Wd) (Q : WQ) : Prop := match x with
  | .str s => s.length + (s.length + 1) * z.length ≤ 16777216 ∧ Q (.str (Txt.replace s y z)) w
  | _ => False
def wReplI (n : Nat) (ta : WE) (y z : Str) : WE := fun ρ w Q => ta ρ w fun x w1 => rIxC n x w1 fun v w2 => rRep y z v w2 Q
theorem de_replI (n : Nat) {i : Int} {j0 j1 j2 : Nat} {c0 c1 c2 apos : Pos} {y z : Str} (ha : DE X a ta) (hi : i = (n : Int) := by rfl) (hyz : (y == z) = false := by decide)
    (hst : starEach [.Constant (.str y) j1 c1, .Constant (.str z) j2 c2] X.env = [(false, eval (.Constant (.str y) j1 c1) X.env), (false, eval (.Constant (.str z) j2 c2) X.env)] := by rfl)
    (hbase : attributeBase (.Subscript a (.Constant (.int i) j0 c0) cpos) "replace" X.env (eval (.Subscript a (.Constant (.int i) j0 c0) cpos) X.env) = eval (.Subscript a (.Constant (.int i) j0 c0) cpos) X.env := by rfl) (hline : (apos.endLine == pos.line) = true := by rfl) :
    DE X (.Call (.Attribute (.Subscript a (.Constant (.int i) j0 c0) cpos) "replace" apos) [.Constant (.str y) j1 c1, .Constant (.str z) j2 c2] [] pos) (wReplI n ta y z) := by
  refine pe_le (pe_replI ix_seq ha hyz hst hbase hline) fun σ H Q ⟨Z, ρ, w, Q', r, h, k⟩ => up1 r h fun x H1 d w1 e1 r1 n1 h1 => ?_
  show rIx X.K x (.int i) H1 _
  subst hi
  unfold rIxC at h1
  have fin : ∀ v d2, Dn ⟨fw X, Z⟩ w1 H1 v d2 → rRep y z d2 w1 Q' → ∃ x, v = .str x ∧ x.length + (x.length + 1) * z.length ≤ 16777216 ∧ Q (.str (Txt.replace x y z)) H1 := by
    intro v d2 hn hq
    unfold rRep at hq
    split at hq
    · cases hn
      exact ⟨_, rfl, hq.1, k _ _ (post_trans e1 (post_same r1.wk (.str _) hq.2))⟩
    · exact hq.elim
  split at h1
  · rename_i e
    obtain ⟨p, ys, rfl, hh, hn⟩ := vwL r1.wk n1 e
    obtain ⟨v, d, q1, q2, q3⟩ := atI_on hn h1
    exact .inl ⟨p, ys, _, v, rfl, rfl, SqL.of hh, q1, fin _ _ q2 q3⟩
  · rename_i e
    obtain ⟨p, ys, rfl, hh, hn⟩ := vwT n1 e
    obtain ⟨v, d, q1, q2, q3⟩ := atI_on hn h1
    exact .inr (.inl ⟨p, ys, _, v, rfl, rfl, hh.sq, q1, fin _ _ q2 q3⟩)
  · rename_i e
    obtain ⟨p, ys, rfl, hh, hn⟩ := vwZ n1 e
    obtain ⟨v, d, q1, q2, q3⟩ := atI_on hn h1
    exact .inl ⟨p, ys, _, v, rfl, rfl, hh.sq, q1, fin _ _ q2 q3⟩
  · rename_i e
    cases vwS n1 e
    obtain ⟨c, q1, q2⟩ := onAt_at h1.2
    exact .inr (.inr ⟨_, _, c, rfl, rfl, h1.1, atI_nat q1, fin _ _ (.str _) q2⟩)
  · exact h1.elim
end
end Pd

/-! a test that is a chain of three -/
namespace L2
open PySem PySem.Spec PyProof.Rows
theorem pt_chain3 {X : Cx} {a b c d : Expr} {ta tb tc td : TE} {pos : Pos} {op op' op'' : CmpOp} {r r' r'' : R2} (ho : OpR X (compareOp op) r) (ho' : OpR X (compareOp op') r') (ho'' : OpR X (compareOp op'') r'') (ha : PE X a ta) (hb : PE X b tb) (hc : PE X c tc) (hd : PE X d td)
    (hm : lastMarks [op, op', op''] [b, c, d] = false := by with_unfolding_all rfl) : PT X (.Compare a [op, op', op''] [b, c, d] pos) (tTest (tChain3 r r' r'' ta tb tc td)) := by
  refine ⟨fun pins s σ H Q I h => ?_⟩
  refine isTrue_chain (thn (ha.run pins s σ H _ I h) fun v s1 ⟨x, H1, I1, r1, q1⟩ => test_link (thn (hb.run pins s1 σ H1 _ I1 q1) fun u s2 ⟨y, H2, I2, r2, q2⟩ =>
    thn (ho pins s2 σ H2 x y v u _ I2 r1 r2 q2) fun d s3 ⟨z, H3, I3, r3, k, e, q3⟩ => ?_)) hm
  subst e
  cases r3
  refine wpAny_truthy_bool ?_
  cases k with
  | false =>
    obtain ⟨k', e', q'⟩ := q3
    cases e'
    exact ite_ff ⟨H3, I3, q'⟩
  | true =>
    refine ite_tt (test_link (thn (hc.run pins s3 σ H3 _ I3 q3) fun w' s4 ⟨z', H4, I4, r4, q4⟩ => thn (ho' pins s4 σ H4 y z' u w' _ I4 r2 r4 q4) fun d' s5 ⟨z5, H5, I5, r5, k5, e5, q5⟩ => ?_))
    subst e5
    cases r5
    refine wpAny_truthy_bool ?_
    cases k5 with
    | false =>
      obtain ⟨k', e', q'⟩ := q5
      cases e'
      exact ite_ff ⟨H5, I5, q'⟩
    | true =>
      refine ite_tt (test_last (thn (hd.run pins s5 σ H5 _ I5 q5) fun w6 s6 ⟨z6, H6, I6, r6, q6⟩ => thn (ho'' pins s6 σ H6 z' z6 w' w6 _ I6 r4 r6 q6) fun d7 s7 ⟨z7, H7, I7, r7, k7, e7, q7⟩ => ?_))
      subst e7
      cases r7
      exact wpAny_truthy_bool ⟨H7, I7, q7⟩
end L2
namespace Pd
open PySem L2
section
variable {X : Cx} {a b c d : Expr} {ta tb tc td : WE} {pos : Pos}
theorem dt_chain3 {op op' op'' : CmpOp} {rD rD' rD'' : R2D} (c1 : CmD X op rD) (c2 : CmD X op' rD') (c3 : CmD X op'' rD'') (ha : DE X a ta) (hb : DE X b tb) (hc : DE X c tc) (hd : DE X d td)
    (hm : lastMarks [op, op', op''] [b, c, d] = false := by with_unfolding_all rfl) : DT X (.Compare a [op, op', op''] [b, c, d] pos) (wTest (wChain3 rD rD' rD'' ta tb tc td)) := by
  obtain ⟨r, ho, hl⟩ := c1.ex
  obtain ⟨r', ho', hl'⟩ := c2.ex
  obtain ⟨r'', ho'', hl''⟩ := c3.ex
  refine pt_le (pt_chain3 ho ho' ho'' ha hb hc hd hm) fun σ H Q ⟨Z, ρ, w, Q', r0, h, k⟩ => ?_
  refine up1 r0 h fun x H1 dx w1 e1 r1 n1 h1 => ?_
  refine up1 r1 h1 fun y H2 dy w2 e2 r2 n2 h2 => ?_
  refine hl Z x y H2 dx dy w2 _ _ r2.wk (n1.ext e2) n2 h2 fun z H3 ⟨dz, w3, e3, k3, n3, h3⟩ => ?_
  have r3 := r2.ext e3 k3
  obtain ⟨kb, rfl, rfl, h3⟩ := onB_of n3 h3
  refine ⟨kb, rfl, ?_⟩
  cases kb with
  | true =>
    refine iteT (up1 r3 h3 fun u H4 du w4 e4 r4 n4 h4 => ?_)
    refine hl' Z y u H4 dy du w4 _ _ r4.wk ((n2.ext e3).ext e4) n4 h4 fun z' H5 ⟨dz', w5, e5, k5, n5, h5⟩ => ?_
    have r5 := r4.ext e5 k5
    obtain ⟨kb', rfl, rfl, h5⟩ := onB_of n5 h5
    refine ⟨kb', rfl, ?_⟩
    cases kb' with
    | true =>
      refine iteT (up1 r5 h5 fun v H6 dv w6 e6 r6 n6 h6 => ?_)
      refine hl'' Z u v H6 du dv w6 _ _ r6.wk ((n4.ext e5).ext e6) n6 h6 fun v7 H7 ⟨d7, w7, e7, k7, n7, h7⟩ => ?_
      obtain ⟨b, rfl, rfl, h7⟩ := onB_of n7 h7
      exact ⟨b, rfl, k _ _ ⟨w7, e1.trans (e2.trans (e3.trans (e4.trans (e5.trans (e6.trans e7))))), k7, h7⟩⟩
    | false =>
      refine iteF ?_
      have h5 : Q' false w5 := by simpa [onB] using h5
      exact ⟨false, rfl, k _ _ ⟨w5, e1.trans (e2.trans (e3.trans (e4.trans e5))), k5, h5⟩⟩
  | false =>
    refine iteF ?_
    have h3 : Q' false w3 := by simpa [onB] using h3
    exact ⟨false, rfl, k _ _ ⟨w3, e1.trans (e2.trans e3), k3, h3⟩⟩
end
end Pd

/-! zip of two texts -/
namespace Pd
open PySem PySem.Spec PyProof.Rows L2
structure ZA (z TI TO i j : Addr) : Prop where
  a1 : TI ≠ z
  a2 : TO ≠ z
  a3 : i ≠ z
  a4 : j ≠ z
  a5 : TI ≠ TO
  a6 : TI ≠ i
  a7 : TI ≠ j
  a8 : TO ≠ i
  a9 : TO ≠ j
  a10 : i ≠ j
section
variable {prog : Program} {w : World} {A : Around} {E : Value → Shared → Prop} {s : Shared}
variable {z TI TO i j : Addr} {k n m : Nat} {P1 P2 : Nat → Value → Prop} {S1 S2 : Nat → Heap → Prop} {a b : Value}
theorem dr_mv {it c : Addr} {h h' : Heap} {n : Nat} {P : Nat → Value → Prop} {S : Nat → Heap → Prop} (D : Draws prog w A it [it] n P S) (x : S k h) (e : Heap.ExtBut c h h') (ne : it ≠ c) : S k h' :=
  D.frame k h h' x fun b hb o q => by
    have : b = it := by simpa using hb
    subst this; exact e b o ne q
theorem zs_item {Q : Value → Shared → Prop} (Z : ZA z TI TO i j) (D1 : Draws prog w A i [i] n P1 S1) (D2 : Draws prog w A j [j] m P2 S2) (hz : IsZip s.heap z TI TO .none) (hI : IsPair s.heap TI (.ref i) (.ref j)) (hO : IsPair s.heap TO a b)
    (x1 : S1 k s.heap) (x2 : S2 k s.heap) (k1 : k < n) (k2 : k < m)
    (q : ∀ h' tk x y, P1 k x → P2 k y → IsZip h' z TI TO (rawInt s.heap.objs.size) → IsPair h' TO x y → S1 (k + 1) h' → S2 (k + 1) h' → IsPair h' s.heap.objs.size x y → (∀ c o, c ≠ z → c ≠ TO → c ≠ i → c ≠ j → s.heap.get? c = some o → h'.get? c = some o) → Q (.ref s.heap.objs.size) { s with heap := h', toks := tk }) :
    wpAny (model prog w) A (Builtin.«zip.__next__» ⟨[.ref z], []⟩) (fun f s' => ∃ v, f = .done (.ret v) ∧ Q v s') E s := by
  show wpAny _ _ (field (.ref z) 2 >>= _) _ _ _
  refine wpAny_bind (wpAny_field hz rfl (x := .bool false) rfl ?_)
  show wpAny _ _ (field (.ref z) 3 >>= _) _ _ _
  refine wpAny_bind (wpAny_field hz rfl (x := .ref TI) rfl ?_)
  refine wpAny_bind (wpAny_seqItems hI rfl ?_)
  show wpAny _ _ (Builtin.SmallTypes.ownedTupleIsFree (.ref z) >>= _) _ _ _
  refine wpAny_bind ?_
  unfold Builtin.SmallTypes.ownedTupleIsFree
  refine wpAny_bind (wpAny_field hz rfl (x := .none) rfl (wpAny_pure ?_))
  simp only [if_true]
  refine wpAny_bind (wpAny_rule ?_)
  refine wpAny_bind (wpAny_field hz rfl (x := .ref TO) rfl ?_)
  refine wpAny_bind (wpAny_setField_rec hz (by simp) fun g1 y1 b1 => ?_)
  replace y1 : IsZip g1 z TI TO .ellipsis := y1
  refine wpAny_bind ?_
  simp only [List.zipIdx_cons, List.zipIdx_nil, List.forIn_cons, List.forIn_nil]
  refine wpAny_bind (wpAny_bind (wpAny_onRaise ?_))
  show wpAny _ _ (Builtin.SmallTypes.nextOf (.ref i) >>= _) _ _ _
  refine wpAny_bind (D1.item k { s with heap := g1 } _ _ k1 (dr_mv D1 x1 b1.extBut Z.a3) fun x g2 t2 px z1 b2 => wpAny_pure ?_)
  have o2 : IsPair g2 TO a b := b2.extBut _ _ Z.a8 (b1.extBut _ _ Z.a2 hO)
  refine wpAny_bind (wpAny_seqItems o2 rfl ?_)
  refine wpAny_bind (wpAny_updateSeq_pair o2 fun g3 o3 b3 => ?_)
  replace o3 : IsPair g3 TO x b := o3
  refine wpAny_bind (wpAny_letGo (wpAny_pure ?_))
  refine wpAny_bind (wpAny_bind (wpAny_onRaise ?_))
  show wpAny _ _ (Builtin.SmallTypes.nextOf (.ref j) >>= _) _ _ _
  have z2 : S2 k g3 := dr_mv D2 (dr_mv D2 (dr_mv D2 x2 b1.extBut Z.a4) b2.extBut Z.a10.symm) b3.extBut Z.a9.symm
  refine wpAny_bind (D2.item k { s with heap := g3, toks := t2 } _ _ k2 z2 fun y g4 t4 py z4 b4 => wpAny_pure ?_)
  have o4 : IsPair g4 TO x b := b4.extBut _ _ Z.a9 o3
  refine wpAny_bind (wpAny_seqItems o4 rfl ?_)
  refine wpAny_bind (wpAny_updateSeq_pair o4 fun g5 o5 b5 => ?_)
  replace o5 : IsPair g5 TO x y := o5
  refine wpAny_bind (wpAny_letGo (wpAny_pure (wpAny_pure ?_)))
  refine wpAny_bind (wpAny_seqItems o5 rfl ?_)
  refine wpAny_bind (wpAny_newTuple ?_)
  have sz : g5.objs.size = s.heap.objs.size := by rw [b5.1, b4.1, b3.1, b2.1, b1.1]
  have y5 : IsZip g5 z TI TO .ellipsis := b5.extBut _ _ Z.a2.symm (b4.extBut _ _ Z.a4.symm (b3.extBut _ _ Z.a2.symm (b2.extBut _ _ Z.a3.symm y1)))
  have k5 : ∀ c o, c ≠ z → c ≠ TO → c ≠ i → c ≠ j → s.heap.get? c = some o → g5.get? c = some o := fun c o c1 c2 c3 c4 e =>
    b5.extBut _ _ c2 (b4.extBut _ _ c4 (b3.extBut _ _ c2 (b2.extBut _ _ c3 (b1.extBut _ _ c1 e))))
  have w1 : S1 (k + 1) g5 := dr_mv D1 (dr_mv D1 (dr_mv D1 z1 b3.extBut Z.a8.symm) b4.extBut Z.a10) b5.extBut Z.a8.symm
  have w2 : S2 (k + 1) g5 := dr_mv D2 z4 b5.extBut Z.a9.symm
  have lz : z < g5.objs.size := Heap.lt_size y5
  obtain ⟨oi, ei⟩ := D1.live _ _ w1
  obtain ⟨oj, ej⟩ := D2.live _ _ w2
  show wpAny _ _ (Builtin.SmallTypes.ownedTupleHandOut (.ref z) (.ref g5.objs.size) >>= _) _ _ _
  refine wpAny_bind ?_
  unfold Builtin.SmallTypes.ownedTupleHandOut
  have y6 : IsZip (g5.push { cls := .type "tuple", data := .seq #[x, y] }) z TI TO .ellipsis := Heap.get?_push_of_some _ y5
  refine wpAny_bind (wpAny_setField_rec y6 (by simp) fun g7 y7 b7 => ?_)
  replace y7 : IsZip g7 z TI TO (rawInt g5.objs.size) := y7
  refine wpAny_setField_rec y7 (by simp) fun g8 y8 b8 => ?_
  replace y8 : IsZip g8 z TI TO (rawInt g5.objs.size) := y8
  have up : ∀ c o, c ≠ z → g5.get? c = some o → g8.get? c = some o := fun c o c1 e => b8.extBut _ _ c1 (b7.extBut _ _ c1 (Heap.get?_push_of_some _ e))
  have t8 : IsPair g8 g5.objs.size x y := b8.extBut _ _ (Nat.ne_of_gt lz) (b7.extBut _ _ (Nat.ne_of_gt lz) (Heap.get?_push_size _ rfl))
  rw [sz] at y8 t8
  refine wpAny_pure ⟨_, rfl, ?_⟩
  show Q (.ref g5.objs.size) _
  rw [sz]
  have v1 : S1 (k + 1) g8 := D1.frame _ _ _ w1 fun c hc o e => by
    have : c = i := by simpa using hc
    subst this; exact up _ _ Z.a3 e
  have v2 : S2 (k + 1) g8 := D2.frame _ _ _ w2 fun c hc o e => by
    have : c = j := by simpa using hc
    subst this; exact up _ _ Z.a4 e
  exact q g8 t4 x y px py y8 (up _ _ Z.a2 o5) v1 v2 t8 fun c o c1 c2 c3 c4 e => up c o c1 (k5 c o c1 c2 c3 c4 e)
theorem zs_end {Q : Fin → Shared → Prop} (Z : ZA z TI TO i j) (D1 : Draws prog w A i [i] n P1 S1) (D2 : Draws prog w A j [j] m P2 S2) (hz : IsZip s.heap z TI TO .none) (hI : IsPair s.heap TI (.ref i) (.ref j)) (hO : IsPair s.heap TO a b)
    (x1 : S1 k s.heap) (x2 : S2 k s.heap) (he : k = n ∨ (k < n ∧ k = m))
    (q : ∀ h' tk e, (∀ c o, c ≠ z → c ≠ TO → c ≠ i → c ≠ j → s.heap.get? c = some o → h'.get? c = some o) → (∃ o, h'.get? e = some o ∧ o.cls = .type "StopIteration") → E (.ref e) { s with heap := h', toks := tk }) :
    wpAny (model prog w) A (Builtin.«zip.__next__» ⟨[.ref z], []⟩) Q E s := by
  show wpAny _ _ (field (.ref z) 2 >>= _) _ _ _
  refine wpAny_bind (wpAny_field hz rfl (x := .bool false) rfl ?_)
  show wpAny _ _ (field (.ref z) 3 >>= _) _ _ _
  refine wpAny_bind (wpAny_field hz rfl (x := .ref TI) rfl ?_)
  refine wpAny_bind (wpAny_seqItems hI rfl ?_)
  show wpAny _ _ (Builtin.SmallTypes.ownedTupleIsFree (.ref z) >>= _) _ _ _
  refine wpAny_bind ?_
  unfold Builtin.SmallTypes.ownedTupleIsFree
  refine wpAny_bind (wpAny_field hz rfl (x := .none) rfl (wpAny_pure ?_))
  simp only [if_true]
  refine wpAny_bind (wpAny_rule ?_)
  refine wpAny_bind (wpAny_field hz rfl (x := .ref TO) rfl ?_)
  refine wpAny_bind (wpAny_setField_rec hz (by simp) fun g1 y1 b1 => ?_)
  replace y1 : IsZip g1 z TI TO .ellipsis := y1
  refine wpAny_bind ?_
  simp only [List.zipIdx_cons, List.zipIdx_nil, List.forIn_cons, List.forIn_nil]
  refine wpAny_bind (wpAny_bind (wpAny_onRaise ?_))
  show wpAny _ _ (Builtin.SmallTypes.nextOf (.ref i) >>= _) _ _ _
  have f1 := dr_mv D1 x1 b1.extBut Z.a3
  rcases he with rfl | ⟨k1, rfl⟩
  · refine wpAny_bind (D1.done { s with heap := g1 } _ _ f1 fun g2 e b2 hs => ?_)
    obtain ⟨oe, h1, h2⟩ := hs
    have y2 : IsZip g2 z TI TO .ellipsis := b2 _ _ Z.a3.symm y1
    have nz : e ≠ z := fun x => by subst x; rw [y2] at h1; cases h1; simp at h2
    exact wpAny_setField_rec y2 (by simp) fun g3 _ b3 => q g3 s.toks e (fun c o c1 _ c3 _ x => b3.extBut _ _ c1 (b2 _ _ c3 (b1.extBut _ _ c1 x))) ⟨oe, b3.extBut _ _ nz h1, h2⟩
  · refine wpAny_bind (D1.item k { s with heap := g1 } _ _ k1 f1 fun x g2 t2 px z1 b2 => wpAny_pure ?_)
    have o2 : IsPair g2 TO a b := b2.extBut _ _ Z.a8 (b1.extBut _ _ Z.a2 hO)
    refine wpAny_bind (wpAny_seqItems o2 rfl ?_)
    refine wpAny_bind (wpAny_updateSeq_pair o2 fun g3 o3 b3 => ?_)
    refine wpAny_bind (wpAny_letGo (wpAny_pure ?_))
    refine wpAny_bind (wpAny_bind (wpAny_onRaise ?_))
    show wpAny _ _ (Builtin.SmallTypes.nextOf (.ref j) >>= _) _ _ _
    have z2 : S2 k g3 := dr_mv D2 (dr_mv D2 (dr_mv D2 x2 b1.extBut Z.a4) b2.extBut Z.a10.symm) b3.extBut Z.a9.symm
    refine wpAny_bind (D2.done { s with heap := g3, toks := t2 } _ _ z2 fun g4 e b4 hs => ?_)
    obtain ⟨oe, h1, h2⟩ := hs
    have y4 : IsZip g4 z TI TO .ellipsis := b4 _ _ Z.a4.symm (b3.extBut _ _ Z.a2.symm (b2.extBut _ _ Z.a3.symm y1))
    have nz : e ≠ z := fun x => by subst x; rw [y4] at h1; cases h1; simp at h2
    exact wpAny_setField_rec y4 (by simp) fun g5 _ b5 => q g5 t2 e (fun c o c1 c2 c3 c4 x => b5.extBut _ _ c1 (b4 _ _ c4 (b3.extBut _ _ c2 (b2.extBut _ _ c3 (b1.extBut _ _ c1 x))))) ⟨oe, b5.extBut _ _ nz h1, h2⟩
theorem pyn_item {Q : Option Value → Shared → Prop} (Z : ZA z TI TO i j) (D1 : ∀ A : Around, A.handled = none → Draws prog w A i [i] n P1 S1) (D2 : ∀ A : Around, A.handled = none → Draws prog w A j [j] m P2 S2) (hh : A.handled = none) (hz : IsZip s.heap z TI TO .none) (hI : IsPair s.heap TI (.ref i) (.ref j)) (hO : IsPair s.heap TO a b)
    (x1 : S1 k s.heap) (x2 : S2 k s.heap) (k1 : k < n) (k2 : k < m)
    (q : ∀ h' tk x y, P1 k x → P2 k y → IsZip h' z TI TO (rawInt s.heap.objs.size) → IsPair h' TO x y → S1 (k + 1) h' → S2 (k + 1) h' → IsPair h' s.heap.objs.size x y → (∀ c o, c ≠ z → c ≠ TO → c ≠ i → c ≠ j → s.heap.get? c = some o → h'.get? c = some o) → Q (some (.ref s.heap.objs.size)) { s with heap := h', toks := tk }) :
    wpAny (model prog w) A (pyNext (.ref z)) Q E s := by
  have hT : s.TypeIs (.ref z) "zip" := ⟨_, hz, rfl⟩
  unfold pyNext
  exact wpAny_bind (wpAny_attempt (wpAny_callSpecial?_slot (name := Str.ofString "__next__") hT F.slot_zip_next
    (wpAny_call_entry F.slot_zip_next hT F.entry_zip_next (zs_item Z (D1 _ hh) (D2 _ hh) hz hI hO x1 x2 k1 k2 fun h' tk x y p1 p2 r1 r2 r3 r4 r5 r6 => wpAny_pure (q h' tk x y p1 p2 r1 r2 r3 r4 r5 r6)) (F.args_zip_next_1 _))))
theorem pyn_end {Q : Option Value → Shared → Prop} (Z : ZA z TI TO i j) (D1 : ∀ A : Around, A.handled = none → Draws prog w A i [i] n P1 S1) (D2 : ∀ A : Around, A.handled = none → Draws prog w A j [j] m P2 S2) (hh : A.handled = none) (hz : IsZip s.heap z TI TO .none) (hI : IsPair s.heap TI (.ref i) (.ref j)) (hO : IsPair s.heap TO a b)
    (x1 : S1 k s.heap) (x2 : S2 k s.heap) (he : k = n ∨ (k < n ∧ k = m))
    (q : ∀ h' tk, (∀ c o, c ≠ z → c ≠ TO → c ≠ i → c ≠ j → s.heap.get? c = some o → h'.get? c = some o) → Q none { s with heap := h', toks := tk }) :
    wpAny (model prog w) A (pyNext (.ref z)) Q E s := by
  have hT : s.TypeIs (.ref z) "zip" := ⟨_, hz, rfl⟩
  unfold pyNext
  refine wpAny_bind (wpAny_attempt (wpAny_callSpecial?_slot (name := Str.ofString "__next__") hT F.slot_zip_next
    (wpAny_call_entry F.slot_zip_next hT F.entry_zip_next (zs_end Z (D1 _ hh) (D2 _ hh) hz hI hO x1 x2 he fun h' tk e hk hs => ?_) (F.args_zip_next_1 _))))
  obtain ⟨o, h1, h2⟩ := hs
  exact wpAny_bind (wpAny_isInstance (T := "StopIteration") (b := true) ⟨o, h1, h2⟩ isSubtype_stop (wpAny_pure (q _ _ hk)))
/-! texts -/
def sTy (x : Str) : String := if x.cps.all (· < 128) then "str_ascii_iterator" else "str_iterator"
abbrev siOb (x : Str) (t : Tok) : Obj := { cls := .type (sTy x), data := .fields #[.str x t, .int 0 0] }
theorem it_str {x : Str} {t : Tok} {Q : Value → Shared → Prop} (q : Q (.ref s.heap.objs.size) { s with heap := s.heap.push (siOb x t) }) : wpAny (model prog w) A (pyIter (.str x t)) Q E s := by
  cases e : x.cps.all (· < 128) with
  | true =>
    have ty : sTy x = "str_ascii_iterator" := by unfold sTy; rw [if_pos e]
    simp only [siOb, ty] at q
    exact wpAny_pyIter_ascii e q
  | false =>
    have ty : sTy x = "str_iterator" := by unfold sTy; rw [if_neg (by rw [e]; decide)]
    simp only [siOb, ty] at q
    exact wpAny_pyIter_wide e q
def sP (x : Str) : Nat → Value → Prop := fun i v => ∃ c u, x.cps[i]? = some c ∧ v = .str ⟨#[c]⟩ u
theorem dr_str (x : Str) (t : Tok) (it : Addr) (A : Around) (hh : A.handled = none) : Draws prog w A it [it] x.cps.size (sP x) (fun i h => h.IsStrIter it (sTy x) x t i) := by
  cases e : x.cps.all (· < 128) with
  | true => have ty : sTy x = "str_ascii_iterator" := by unfold sTy; rw [if_pos e]
            rw [ty]; exact Draws.strAscii hh it x t
  | false => have ty : sTy x = "str_iterator" := by unfold sTy; rw [if_neg (by rw [e]; decide)]
             rw [ty]; exact Draws.strWide hh it x t
abbrev zsA (h : Heap) (x : Str) (t : Tok) : Heap := h.push (siOb x t)
abbrev zsB (h : Heap) (x y : Str) (t u : Tok) : Heap := (zsA h x t).push (siOb y u)
abbrev zsC (h : Heap) (x y : Str) (t u : Tok) : Heap := (zsB h x y t u).push { cls := .type "tuple", data := .seq #[.ref h.objs.size, .ref (zsA h x t).objs.size] }
abbrev zsD (h : Heap) (x y : Str) (t u : Tok) : Heap := (zsC h x y t u).push { cls := .type "tuple", data := .seq #[.none, .none] }
abbrev zsE (h : Heap) (x y : Str) (t u : Tok) : Heap := (zsD h x y t u).push { cls := .type "zip", data := .fields #[.none, .bool false, .bool false, .ref (zsB h x y t u).objs.size, .ref (zsC h x y t u).objs.size] }
theorem new_zs (x y : Str) (t u : Tok) : Meets (Builtin.«zip.__new__» ⟨[.type "zip", .str x t, .str y u], []⟩) (fun _ R s => R (.ok (.ret (.ref (zsD s.heap x y t u).objs.size))) { s with heap := zsE s.heap x y t u }) :=
  .of_wp fun prog w A R s h => by
    obtain ⟨hp, g, d, tk, os⟩ := s
    have hsub := sub_zip
    have p1 : ∀ (A : Around) (E : Value → Shared → Prop) (Q : Value → Shared → Prop) (s : Shared), Q (.ref s.heap.objs.size) { s with heap := s.heap.push (siOb x t) } → wpAny (model prog w) A (pyIter (.str x t)) Q E s := fun A E Q s q => it_str q
    have p2 : ∀ (A : Around) (E : Value → Shared → Prop) (Q : Value → Shared → Prop) (s : Shared), Q (.ref s.heap.objs.size) { s with heap := s.heap.push (siOb y u) } → wpAny (model prog w) A (pyIter (.str y u)) Q E s := fun A E Q s q => it_str q
    wp_walk using p1, p2
    exact ⟨_, rfl, h⟩
theorem call_zs {x y : Str} {t u : Tok} {Q : Value → Shared → Prop}
    (q : ∀ h', IsZip h' (s.heap.objs.size + 4) (s.heap.objs.size + 2) (s.heap.objs.size + 3) .none → IsPair h' (s.heap.objs.size + 2) (.ref s.heap.objs.size) (.ref (s.heap.objs.size + 1)) → IsPair h' (s.heap.objs.size + 3) .none .none →
      h'.IsStrIter s.heap.objs.size (sTy x) x t 0 → h'.IsStrIter (s.heap.objs.size + 1) (sTy y) y u 0 → (∀ c o, s.heap.get? c = some o → h'.get? c = some o) → Q (.ref (s.heap.objs.size + 4)) { s with heap := h' }) :
    wpAny (model prog w) A (call (.type "zip") [.str x t, .str y u]) Q E s := by
  refine callType_new F.called_zip (by decide) (F.typeCall_zip_2 _ _) (F.newCall_zip_2 _ _) (fun obj => F.args_object_init_3 obj _ _) F.entry_zip_new (new_zs x y t u) ?_
  have z1 : (zsA s.heap x t).objs.size = s.heap.objs.size + 1 := Heap.size_push ..
  have z2 : (zsB s.heap x y t u).objs.size = s.heap.objs.size + 2 := by rw [Heap.size_push, z1]
  have z3 : (zsC s.heap x y t u).objs.size = s.heap.objs.size + 3 := by rw [Heap.size_push, z2]
  have z4 : (zsD s.heap x y t u).objs.size = s.heap.objs.size + 4 := by rw [Heap.size_push, z3]
  have e5 : (zsE s.heap x y t u).get? (s.heap.objs.size + 4) = some { cls := .type "zip", data := .fields #[.none, .bool false, .bool false, .ref (zsB s.heap x y t u).objs.size, .ref (zsC s.heap x y t u).objs.size] } := by
    rw [← z4]; exact Heap.get?_push_size _ rfl
  have e4 : (zsE s.heap x y t u).get? (s.heap.objs.size + 3) = some { cls := .type "tuple", data := .seq #[.none, .none] } := by
    rw [← z3]; exact Heap.get?_push_of_some _ (Heap.get?_push_size _ rfl)
  have e3 : (zsE s.heap x y t u).get? (s.heap.objs.size + 2) = some { cls := .type "tuple", data := .seq #[.ref s.heap.objs.size, .ref (zsA s.heap x t).objs.size] } := by
    rw [← z2]; exact Heap.get?_push_of_some _ (Heap.get?_push_of_some _ (Heap.get?_push_size _ rfl))
  have e2 : (zsE s.heap x y t u).get? (s.heap.objs.size + 1) = some (siOb y u) := by
    rw [← z1]; exact Heap.get?_push_of_some _ (Heap.get?_push_of_some _ (Heap.get?_push_of_some _ (Heap.get?_push_size _ rfl)))
  have e1 : (zsE s.heap x y t u).get? s.heap.objs.size = some (siOb x t) :=
    Heap.get?_push_of_some _ (Heap.get?_push_of_some _ (Heap.get?_push_of_some _ (Heap.get?_push_of_some _ (Heap.get?_push_size _ rfl))))
  rw [z2, z3] at e5
  rw [z1] at e3
  rw [z4]
  exact ⟨⟨_, e5, rfl⟩, q _ e5 e3 e4 ⟨_, e1, rfl, rfl⟩ ⟨_, e2, rfl, rfl⟩ fun c o e => Heap.get?_push_of_some _ (Heap.get?_push_of_some _ (Heap.get?_push_of_some _ (Heap.get?_push_of_some _ (Heap.get?_push_of_some _ e))))⟩
end
/-- the texts' signs in new pairs -/
def ItzS (x y : Str) : It :=
  ⟨fun i _ => i < x.cps.size ∧ i < y.cps.size, fun i H v H' => ∃ T c d, v = .ref T ∧ H T = none ∧ H' = upd H T (.tup [.str ⟨#[c]⟩, .str ⟨#[d]⟩]) ∧ x.cps[i]? = some c ∧ y.cps[i]? = some d, fun i _ => x.cps.size ≤ i ∨ y.cps.size ≤ i⟩
theorem turn_zs {P : Program} {w : World} {K : PySem.W.Frag} {elts : List Expr} {kk : Nat} {tpos : Pos} {x y : Str} {t u : Tok} {z TI TO i1 i2 : Addr} (Z : ZA z TI TO i1 i2) :
    Turn P w K (.Tuple elts kk tpos) (ItzS x y) [z, TI, TO, i1, i2] z (fun i h => (i ≤ x.cps.size ∧ i ≤ y.cps.size) ∧ IsZip h z TI TO .none ∧ IsPair h TI (.ref i1) (.ref i2) ∧ (∃ a b, IsPair h TO a b) ∧ h.IsStrIter i1 (sTy x) x t i ∧ h.IsStrIter i2 (sTy y) y u i) where
  mem := by simp
  obj := fun i h st c hc => by
    obtain ⟨_, hz, hI, ⟨a, b, hO⟩, ⟨o1, e1, _, d1⟩, ⟨o2, e2, _, d2⟩⟩ := st
    simp only [List.mem_cons, List.not_mem_nil, or_false] at hc
    rcases hc with rfl | rfl | rfl | rfl | rfl
    · exact ⟨_, hz, fun v q => nomatch q⟩
    · exact ⟨_, hI, fun v q => nomatch q⟩
    · exact ⟨_, hO, fun v q => nomatch q⟩
    · exact ⟨o1, e1, fun v q => by rw [d1] at q; cases q⟩
    · exact ⟨o2, e2, fun v q => by rw [d2] at q; cases q⟩
  keep := fun i h h' st k => by
    obtain ⟨hl, hz, hI, ⟨a, b, hO⟩, ⟨o1, e1, r1⟩, ⟨o2, e2, r2⟩⟩ := st
    exact ⟨hl, k z (by simp) _ hz, k TI (by simp) _ hI, ⟨a, b, k TO (by simp) _ hO⟩, ⟨o1, k i1 (by simp) _ e1, r1⟩, ⟨o2, k i2 (by simp) _ e2, r2⟩⟩
  item := by
    intro X hP hw hK hc i pins s σ H E I hf st hg
    subst hP hw hK
    obtain ⟨hl, hz, hI, ⟨a, b, hO⟩, h1, h2⟩ := st
    obtain ⟨l1, l2⟩ := hg
    have lz : z < s.heap.objs.size := Heap.lt_size hz
    have lI : TI < s.heap.objs.size := Heap.lt_size hI
    have lO : TO < s.heap.objs.size := Heap.lt_size hO
    have la : i1 < s.heap.objs.size := by obtain ⟨_, e, _⟩ := h1; exact Heap.lt_size e
    have lb : i2 < s.heap.objs.size := by obtain ⟨_, e, _⟩ := h2; exact Heap.lt_size e
    refine pyn_item Z (dr_str x t i1) (dr_str y u i2) (I.ok.hd hc) hz hI hO h1 h2 l1 l2 fun h' tk v1 v2 p1 p2 y1 y2 y3 y4 y5 y6 => ?_
    obtain ⟨c, t1, hc1, rfl⟩ := p1
    obtain ⟨d, t2, hc2, rfl⟩ := p2
    refine ⟨_, rfl, wpAny_letOwnedTupleGo_zip (s := { s with heap := h', toks := tk }) y1 fun h'' z'' sb => ?_⟩
    have hT2 : h''.get? s.heap.objs.size = some { cls := .type "tuple", data := .seq #[.str ⟨#[c]⟩ t1, .str ⟨#[d]⟩ t2] } := (sb.2 _ (Nat.ne_of_gt lz)).trans y5
    have new : ObjOk X.prog X.w (upd H s.heap.objs.size (.tup [.str ⟨#[c]⟩, .str ⟨#[d]⟩])) h'' s.heap.objs.size (.tup [.str ⟨#[c]⟩, .str ⟨#[d]⟩]) :=
      ⟨by show 2 ≤ sizeLine; decide, [.str ⟨#[c]⟩ t1, .str ⟨#[d]⟩ t2], .cons ⟨_, rfl⟩ (.cons ⟨_, rfl⟩ .nil), ⟨_, hT2, rfl, _, rfl⟩⟩
    have I1 : Inv X pins σ (upd H s.heap.objs.size (.tup [.str ⟨#[c]⟩, .str ⟨#[d]⟩])) { s with heap := h'', toks := tk } :=
      I.turnedNew (t' := tk) (ch := [z, TI, TO, i1, i2]) (fun e o hb r => (sb.2 e (fun q' => hb (by simp [q']))).trans (y6 e o (fun q' => hb (by simp [q'])) (fun q' => hb (by simp [q'])) (fun q' => hb (by simp [q'])) (fun q' => hb (by simp [q'])) r)) hf (Nat.le_refl _) new
    have mv : ∀ e o, e ≠ z → h'.get? e = some o → h''.get? e = some o := fun e o ne r => (sb.2 e ne).trans r
    refine ⟨.ref s.heap.objs.size, _, I1, rfl, ⟨_, c, d, rfl, I.hok.fresh (Nat.le_refl _), rfl, hc1, hc2⟩, ⟨⟨l1, l2⟩, z'', mv _ _ Z.a1 (y6 _ _ Z.a1 Z.a5 Z.a6 Z.a7 hI), ⟨_, _, mv _ _ Z.a2 y2⟩, ?_, ?_⟩, fun e he => ?_⟩
    · obtain ⟨o, e, r⟩ := y3; exact ⟨o, mv _ _ Z.a3 e, r⟩
    · obtain ⟨o, e, r⟩ := y4; exact ⟨o, mv _ _ Z.a4 e, r⟩
    · have hlt : e < s.heap.objs.size := by
        have he' := he
        simp only [List.mem_cons, List.not_mem_nil, or_false] at he'
        rcases he' with rfl | rfl | rfl | rfl | rfl <;> assumption
      rw [upd_ne (Nat.ne_of_lt hlt)]
      exact (hf e he).1
  done := by
    intro X hP hw hK hc i pins s σ H E I hf st hg
    subst hP hw hK
    obtain ⟨⟨m1, m2⟩, hz, hI, ⟨a, b, hO⟩, h1, h2⟩ := st
    have he : i = x.cps.size ∨ (i < x.cps.size ∧ i = y.cps.size) := by
      have hg' : x.cps.size ≤ i ∨ y.cps.size ≤ i := hg
      omega
    exact pyn_end Z (dr_str x t i1) (dr_str y u i2) (I.ok.hd hc) hz hI hO h1 h2 he fun h' tk hk => ⟨rfl, I.turnedL (t' := tk) (ch := [z, TI, TO, i1, i2]) (fun e o hb r =>
      hk e o (fun q' => hb (by simp [q'])) (fun q' => hb (by simp [q'])) (fun q' => hb (by simp [q'])) (fun q' => hb (by simp [q'])) r) hf⟩
  self := fun A i s Q E st h => wpAny_pyIter_zip st.2.1 h
/-- zip(x, y), both texts -/
def iZs (ta : TA) : TI := fun σ H R => ta σ H fun vs H1 => ∃ x y, vs = [.str x, .str y] ∧ R (ItzS x y) H1
theorem pi_zs {X : Cx} {e e2 : Expr} {ta : TA} {p pos tpos : Pos} {elts : List Expr} {kk : Nat} (hg : Gl X "zip") (hm : X.mg "zip" = none) (ha : PA X [e, e2] ta)
    (hs : starEach [e, e2] X.env = (false, eval e X.env) :: starEach [e2] X.env := by rfl) (hpl : (backTo pos (starEach [e2] X.env)).any (·.1) = false := by rfl) :
    PI X (.Tuple elts kk tpos) (.Call (.Name "zip" p) [e, e2] [] pos) (iZs ta) := by
  refine ⟨fun pins s σ H R I h => ?_⟩
  refine Call_ (ld_blt I hg hm PyProof.Rows.boot_zip (PyProof.Rows.callWith_type1 (thn (ha.run pos pins s σ H _ I h) fun us s1 ⟨vs, H1, I1, r1, q1⟩ => ?_) hs hpl))
  obtain ⟨x, y, ex, q1⟩ := q1
  subst ex
  cases r1 with
  | cons r rr =>
    cases rr with
    | cons r' rr =>
      cases rr
      obtain ⟨t, rfl⟩ := r
      obtain ⟨u, rfl⟩ := r'
      refine call_zs fun h' hz hI hO h1 h2 hk => wpAny_pyIter_zip hz ?_
      have I2 : Inv X pins σ H1 { s1 with heap := h' } := I1.kept (t' := s1.toks) hk
      have Z : ZA (s1.heap.objs.size + 4) (s1.heap.objs.size + 2) (s1.heap.objs.size + 3) s1.heap.objs.size (s1.heap.objs.size + 1) := by
        generalize s1.heap.objs.size = N
        exact ⟨Nat.ne_of_lt (by omega), Nat.ne_of_lt (by omega), Nat.ne_of_lt (by omega), Nat.ne_of_lt (by omega), Nat.ne_of_lt (by omega), Nat.ne_of_gt (by omega), Nat.ne_of_gt (by omega), Nat.ne_of_gt (by omega), Nat.ne_of_gt (by omega), Nat.ne_of_lt (by omega)⟩
      refine ⟨s1.heap.objs.size + 4, [s1.heap.objs.size + 4, s1.heap.objs.size + 2, s1.heap.objs.size + 3, s1.heap.objs.size, s1.heap.objs.size + 1], _, _, H1, rfl, I2, turn_zs Z, ⟨⟨Nat.zero_le _, Nat.zero_le _⟩, hz, hI, ⟨_, _, hO⟩, h1, h2⟩, fun c hc => ?_, q1⟩
      have hle : s1.heap.objs.size ≤ c := by
        simp only [List.mem_cons, List.not_mem_nil, or_false] at hc
        rcases hc with rfl | rfl | rfl | rfl | rfl
        · exact Nat.le_add_right _ _
        · exact Nat.le_add_right _ _
        · exact Nat.le_add_right _ _
        · exact Nat.le_refl _
        · exact Nat.le_add_right _ _
      exact I1.fpOk hle (I1.hok.fresh hle)
def zipS (x y : Str) : List PV := (x.cps.toList.zip y.cps.toList).map fun p => .tup [.str ⟨#[p.1]⟩, .str ⟨#[p.2]⟩]
theorem itd_zs {K : Kz} {w : Wd} {H : Hp} (x y : Str) : ItD K (ItzS x y) w H (zipS x y) where
  go := fun i w' H' e hi => by
    simp only [zipS, List.length_map, List.length_zip, Array.length_toList] at hi
    exact ⟨by omega, by omega⟩
  yld := fun i w' H' v H'' Z' e z k hi ⟨T, c, d, h1, h2, h3, h4, h5⟩ => by
    subst h1; subst h3
    refine ⟨.tup [.str ⟨#[c]⟩, .str ⟨#[d]⟩], ?_, Ext.new k h2, k.new h2, .tup (.inl ⟨k.off h2, k.nz h2, upd_same⟩) (.cons (.str _) (.cons (.str _) .nil))⟩
    have e1 : x.cps.toList[i]? = some c := by rw [Array.getElem?_toList]; exact h4
    have e2 : y.cps.toList[i]? = some d := by rw [Array.getElem?_toList]; exact h5
    simp only [zipS, List.getElem?_map]
    have e3 : (x.cps.toList.zip y.cps.toList)[i]? = some (c, d) := List.getElem?_zip_eq_some.mpr ⟨e1, e2⟩
    rw [e3]
    rfl
  stop := fun w' H' e => by
    show x.cps.size ≤ (zipS x y).length ∨ y.cps.size ≤ (zipS x y).length
    simp only [zipS, List.length_map, List.length_zip, Array.length_toList]
    omega
def rZip (ds : List PV) (k : List PV → Prop) : Prop := match ds with
  | [.str x, .str y] => k (zipS x y)
  | _ => False
def wZip (ta : WA) : WI := fun ρ w Q => ta ρ w fun ds w1 => rZip ds fun xs => Q xs w1
theorem di_zip {X : Cx} {e e2 : Expr} {ta : WA} {p pos tpos : Pos} {elts : List Expr} {kk : Nat} (hg : Gl X "zip") (hm : X.mg "zip" = none) (ha : DA X [e, e2] ta)
    (hs : starEach [e, e2] X.env = (false, eval e X.env) :: starEach [e2] X.env := by rfl) (hpl : (backTo pos (starEach [e2] X.env)).any (·.1) = false := by rfl) :
    DI X (.Tuple elts kk tpos) (.Call (.Name "zip" p) [e, e2] [] pos) (wZip ta) :=
  pi_le (pi_zs hg hm ha hs hpl) fun σ H R ⟨Z, ρ, w, Q', r, h, k⟩ => upA1 r h fun vs H1 ds w1 e1 r1 n h1 => by
    unfold rZip at h1
    split at h1
    · obtain ⟨v, u, rfl, n1, n2⟩ := dall2 n
      cases n1; cases n2
      exact ⟨_, _, rfl, k _ _ _ _ e1 r1.wk (itd_zs _ _) h1⟩
    · exact h1.elim
end Pd

/-! sorted(list) of ints or of texts -/
namespace Pd
open PySem PySem.Spec PyProof.Rows L2
def rSrtS (K : PySem.W.Frag) : List V → Hp → VK → Prop := fun vs H Q => ∃ (a : Addr) (ss : List Str), vs = [V.ref a] ∧ SqL K H a (ss.map V.str) ∧
  ∀ (ss' : List Str) (p : Addr), ss'.Perm ss → sortedS ss' = true → H p = none → Q (.ref p) (upd H p (.lst (ss'.map V.str)))
section
variable {X : Cx}
theorem cr_srtS : CallR X (.builtin "sorted") (rSrtS X.K) := by
  intro pins s σ H vs us Q I r h
  obtain ⟨a, ss, rfl, hs, q⟩ := h
  obtain ⟨its, rv, hl, hz⟩ := I.list hs
  rw [Vals.ref1 r]
  refine sorted_strsAny hl.isList rv.strs (by rw [← rv.length]; exact hz) fun out ss' h1 h2 h3 => ?_
  obtain ⟨ep, he⟩ := PyProof.Rows.sortedAll_at s.heap its out
  have hlen : (ss'.map V.str).length ≤ sizeLine := by
    rw [List.length_map, h2.length_eq]
    rw [List.length_map] at hz
    exact hz
  exact ⟨.ref _, upd H (s.heap.objs.size + 1) (.lst (ss'.map V.str)), I.laid (t' := s.toks) (fun _ _ => PyProof.Rows.sortedAll_old) (Nat.le_succ _) ⟨hlen, out.toList, ep, vals_of_strs h1, by simpa using he⟩, rfl, q _ _ h2 h3 (I.hok.fresh (Nat.le_succ _))⟩
theorem dn_strs_eq {K : Kz} {w : Wd} {H : Hp} : ∀ {ss : List Str} {vs : List V}, DnAll K w H vs (ss.map PV.str) → vs = ss.map V.str
  | [], _, .nil => rfl
  | n :: r, _, .cons h t => by cases h; rw [dn_strs_eq t]; rfl
theorem strs_dn {K : Kz} {w : Wd} {H : Hp} : ∀ ss : List Str, DnAll K w H (ss.map V.str) (ss.map PV.str)
  | [] => .nil
  | n :: r => .cons (.str n) (strs_dn r)
theorem ints_dn {K : Kz} {w : Wd} {H : Hp} : ∀ ns : List Int, DnAll K w H (ns.map V.int) (ns.map PV.int)
  | [] => .nil
  | n :: r => .cons (.int n) (ints_dn r)
def cSorted : RcD := fun ds w Q => ∃ es, ds = [.lst es] ∧ ((∃ ns : List Int, es = ns.map PV.int ∧ ∀ ns' : List Int, ns'.Perm ns → ns'.Pairwise (· ≤ ·) → Q (.lst (ns'.map PV.int)) w) ∨
  ∃ ss : List Str, es = ss.map PV.str ∧ ∀ ss' : List Str, ss'.Perm ss → sortedS ss' = true → Q (.lst (ss'.map PV.str)) w)
theorem ca_sorted : CaD X (.builtin "sorted") cSorted := by
  refine ⟨_, cr_sortedI.or cr_srtS, fun Z xs H ds w Q' Q k n h kq => ?_⟩
  obtain ⟨es, rfl, h⟩ := h
  obtain ⟨v, rfl, n1⟩ := dall1 n
  cases n1 with
  | lst hL hA =>
    rcases h with ⟨ns, rfl, h⟩ | ⟨ss, rfl, h⟩
    · cases dn_ints_eq hA
      exact .inl ⟨_, ns, rfl, hL.sq, fun ns' p h1 h2 hp => kq _ _ (post_lst k hp (ints_dn ns') (h ns' h1 h2))⟩
    · cases dn_strs_eq hA
      exact .inr ⟨_, ss, rfl, hL.sq, fun ss' p h1 h2 hp => kq _ _ (post_lst k hp (strs_dn ss') (h ss' h1 h2))⟩
end
end Pd

/-! {k: e, ..}[x]: written keys, any values -/
namespace Pd
open PySem L2
def wVals : List (Key × WE) → Sl → Wd → (List (Key × PV) → Wd → Prop) → Prop
  | [], _, w, Q => Q [] w
  | (k, t) :: r, ρ, w, Q => t ρ w fun d w1 => wVals r ρ w1 fun kvs w2 => Q ((k, d) :: kvs) w2
def wIxV (kts : List (Key × WE)) (te : WE) : WE := fun ρ w Q => wVals kts ρ w fun kvs w1 => te ρ w1 fun y w2 => rIxD kvs y w2 Q
inductive DisV (X : Cx) : List (Option Expr) → List Expr → List (Key × WE) → Prop
  | nil : DisV X [] [] []
  | cons {k v : Expr} {kk : Key} {t : WE} {ks : List (Option Expr)} {vs : List Expr} {kts : List (Key × WE)} : PE X k (tC (kV kk)) → DE X v t → DisV X ks vs kts → DisV X (some k :: ks) (v :: vs) ((kk, t) :: kts)
theorem DisV.pps {X : Cx} {pos : Pos} {ks : List (Option Expr)} {vs : List Expr} {kts : List (Key × WE)} (h : DisV X ks vs kts) : PPs X pos ks vs (kts.map fun kt => (tC (kV kt.1), upE (fw X) kt.2)) := by
  induction h with
  | nil => exact pps_nil
  | cons h1 h2 _ ih => exact pps_cons h1 h2 ih
theorem DisV.len {X : Cx} {ks : List (Option Expr)} {vs : List Expr} {kts : List (Key × WE)} (h : DisV X ks vs kts) : ks.length = vs.length ∧ ks.length = kts.length ∧ ks.all (·.isSome) = true := by
  induction h with
  | nil => exact ⟨rfl, rfl, rfl⟩
  | cons _ _ _ ih => exact ⟨by simp [ih.1], by simp [ih.2.1], by simpa using ih.2.2⟩
theorem tPairs_v {K : Fw} {Z : Addr → Prop} {ρ : Sl} {σ : St} : ∀ (kts : List (Key × WE)) {w : Wd} {H : Hp} {Q' : List (Key × PV) → Wd → Prop} {R : List (V × V) → Hp → Prop}, Rep ⟨K, Z⟩ ρ w σ H → wVals kts ρ w Q' →
    (∀ (kvs : List (Key × PV)) (kvv : List (Key × V)) w1 H1, Ext w H w1 H1 → Wk ⟨K, Z⟩ w1 H1 → kvs.map (·.1) = kts.map (·.1) → kvv.map (·.1) = kts.map (·.1) → DnAll ⟨K, Z⟩ w1 H1 (kvv.map (·.2)) (kvs.map (·.2)) → Q' kvs w1 → R (kvv.map fun kv => (kV kv.1, kv.2)) H1) →
    tPairs (kts.map fun kt => (tC (kV kt.1), upE K kt.2)) σ H R
  | [], w, H, Q', R, r, h, k => k [] [] w H (Ext.refl _ _) r.wk rfl rfl .nil h
  | (kk, t) :: rest, w, H, Q', R, r, h, k => by
    show upE K t σ H _
    refine up1 r h fun y H2 dy w2 e2 r2 n2 h2 => ?_
    refine tPairs_v rest r2 h2 fun kvs kvv w3 H3 e3 k3 q1 q2 n3 h3 => ?_
    exact k ((kk, dy) :: kvs) ((kk, y) :: kvv) w3 H3 (e2.trans e3) k3 (by simp [q1]) (by simp [q2]) (.cons (n2.ext e3) n3) h3
theorem val_dn {K : Kz} {w : Wd} {H : Hp} {k : Key} {d : PV} : ∀ {kvs : List (Key × PV)} {kvv : List (Key × V)}, kvs.map (·.1) = kvv.map (·.1) → DnAll K w H (kvv.map (·.2)) (kvs.map (·.2)) → valP kvs k = some d → ∃ v, valV kvv k = some v ∧ Dn K w H v d
  | [], [], _, _, h => by simp [valP] at h
  | (a, x) :: r, (b, y) :: s, e, n, h => by
    simp only [List.map_cons, List.cons.injEq] at e
    obtain ⟨e1, e2⟩ := e
    have e1 : a = b := e1
    subst e1
    cases n with
    | cons n1 n2 =>
      by_cases q : a = k
      · subst q
        have : x = d := by simpa [valP] using h
        subst this
        exact ⟨y, by simp [valV], n1⟩
      · have h' : valP r k = some d := by simpa [valP, List.find?_cons, q] using h
        obtain ⟨v, h1, h2⟩ := val_dn e2 n2 h'
        exact ⟨v, by simpa [valV, List.find?_cons, q] using h1, h2⟩
  | [], _ :: _, e, _, _ => by simp at e
  | _ :: _, [], e, _, _ => by simp at e
theorem merge_new : ∀ (more acc : List (Key × V)), ((acc ++ more).map (·.1)).Nodup → mergeK acc more = acc ++ more
  | [], acc, _ => by simp [mergeK]
  | (k, v) :: r, acc, h => by
    have hk : (acc.any fun kv => decide (kv.1 = k)) = false := by
      rw [List.any_eq_false]
      intro kv hkv q
      have q : kv.1 = k := of_decide_eq_true q
      rw [List.map_append, List.nodup_append] at h
      exact h.2.2 kv.1 (List.mem_map.mpr ⟨kv, hkv, rfl⟩) k (by simp) q
    have e : putK acc k v = acc ++ [(k, v)] := by unfold putK; rw [hk]; simp
    have : mergeK acc ((k, v) :: r) = mergeK (putK acc k v) r := rfl
    rw [this, e, merge_new r (acc ++ [(k, v)]) (by simpa using h)]
    simp
section
variable {X : Cx} {keys : List (Option Expr)} {values : List Expr} {kts : List (Key × WE)} {e : Expr} {te : WE} {pos cpos : Pos}
theorem de_ixV (hu : X.A.units + 64 < cLine) (hd : DisV X keys values kts) (he : DE X e te) (hs : NoSl e) (h0 : keys ≠ [] := by exact fun z => nomatch z) (h15 : keys.length ≤ 15 := by decide) (hm : (kts.map (·.1)).Nodup := by decide) :
    DE X (.Subscript (.Dict keys values pos) e cpos) (wIxV kts te) := by
  refine pe_le (pe_dget (by omega) (pe_disp hd.pps hd.len.2.2 hd.len.1 h0 h15) he hs) fun σ H Q ⟨Z, ρ, w, Q', r, h, k⟩ => ?_
  intro p hp
  have zx : Zx ⟨fw X, Z⟩ H (zAdd Z p) := fun b q => q.elim .inl fun e => .inr (by rw [e]; exact hp)
  have zp : (⟨fw X, zAdd Z p⟩ : Kz).Z p := .inr rfl
  have e0 : Ext w H w (upd H p (.dK [])) := Ext.new r.wk hp
  have r0 : Rep ⟨fw X, zAdd Z p⟩ ρ w σ (upd H p (.dK [])) := ⟨r.len, fun j d hj => by
    obtain ⟨v, q3, q4⟩ := r.sl j d hj
    exact ⟨v, q3, (q4.hide zx).ext e0⟩, r.wk.hid hp⟩
  refine tPairs_v kts r0 h fun kvs kvv w1 H1 e1 k1 q1 q2 n1 h1 => ?_
  have hpw : w p = none := r.wk.off hp
  have hp1 : H1 p = some (.dK []) := (e1 p _ hpw upd_same).2
  have hl : kvv.length ≤ 15 := by
    have := congrArg List.length q2
    simp only [List.length_map] at this
    rw [this, ← hd.len.2.1]; exact h15
  refine ⟨hp1, kvv, rfl, hl, ?_⟩
  have hme : mergeK [] kvv = kvv := by
    have := merge_new kvv [] (by simpa [q2] using hm)
    simpa using this
  rw [hme]
  have e2 : Ext w H w1 (upd H1 p (.dK kvv)) := fun b u a1 a2 => by
    have nb : b ≠ p := ne_of_none a2 hp
    have z := (e0.trans e1) b u a1 a2
    exact ⟨z.1, by rw [upd_ne nb]; exact z.2⟩
  have k2 : Wk ⟨fw X, zAdd Z p⟩ w1 (upd H1 p (.dK kvv)) := k1.upd zp
  have r2 : Rep ⟨fw X, zAdd Z p⟩ ρ w1 σ (upd H1 p (.dK kvv)) := ⟨r.len, fun j d hj => by
    obtain ⟨v, q3, q4⟩ := r.sl j d hj
    exact ⟨v, q3, (q4.hide zx).ext e2⟩, k2⟩
  refine up1 r2 h1 fun y H3 dy w3 e3 r3 n3 h3 => ?_
  obtain ⟨kk, rfl, d, hd', q⟩ := onKey_at n3 h3
  have hpw1 : w1 p = none := (k2.zin p zp).1
  have hH3 : H3 p = some (.dK kvv) := (e3 p _ hpw1 upd_same).2
  obtain ⟨v, hv, hn⟩ := val_dn (q1.trans q2.symm) n1 hd'
  refine ⟨p, v, rfl, ?_, ?_⟩
  · have := DGet.k (k := kk) hH3
    rwa [hv] at this
  · have n4 : Dn ⟨fw X, zAdd Z p⟩ w3 H3 v d := (hn.upd zp).ext e3
    exact k _ _ (post_trans (e2.trans e3) (post_same (r3.wk.less (Z' := Z) fun b q => Or.inl q) (n4.less (Z' := Z) fun b q => Or.inl q) q))
end
end Pd

/-! list(reversed(list)) -/
namespace Pd
open PySem L2 PyProof.Rows RT
section
variable {prog : Program} {w : World} {A : Around} {E : Value → Shared → Prop} {s : Shared} {it l S : Addr} {its : Array Value}
theorem ext_lr {R : Result → Shared → Prop} (hh : A.handled = none) (hit : s.heap.IsRevIter it l ((its.size : Int) - 1)) (hl : s.heap.IsList l its) (n1 : l ≠ it) (n2 : S ≠ it) (n3 : S ≠ l) (hn : its.size ≤ sizeLine) (c : Nat) (hS : s.heap.get? S = some { cls := .type "list", data := .seq #[] c })
    (q : ∀ h' tk acc c', (∀ b o, b ≠ S → b ≠ it → s.heap.get? b = some o → h'.get? b = some o) → h'.get? S = some { cls := .type "list", dict := none, data := .seq acc c', slots := #[] } → ItemsOf (fun i v => its[its.size - 1 - i]? = some v) acc its.size → R (.ok (.ret .none)) { s with heap := h', toks := tk }) :
    wpAny (model prog w) A.in1 (Builtin.List.listExtendWith (.ref S) (.ref it) .none)
      (fun fin s' => match fin with | .done f => R (.ok f) s' | .again c' => c'.quiet = true ∧ codeAny (model prog w) A c' R s') (fun e s' => R (.error e) s') s := by
  have W := (Walks.listRev (prog := prog) (w := w) (A := A.in1) hh it l n1 its).toS
  have hT : s.TypeIs (.ref it) "list_reverseiterator" := hit.typeIs
  have g3 : Builtin.List.listSameRef (.ref S) (.ref it) = false := by simp [Builtin.List.listSameRef, n2]
  have hSf : S ∉ [it, l] := by simp only [List.mem_cons, List.not_mem_nil, or_false, not_or]; exact ⟨n2, n3⟩
  unfold Builtin.List.listExtendWith
  refine wpAny_bind (wpAny_typeOf hT ?_)
  rw [if_neg (by rw [g3]; decide)]
  refine wpAny_bind (wpAny_pyIter_revIter hit ?_)
  refine wpAny_bind (wpAny_holding ?_)
  unfold Builtin.List.listLengthHint
  refine wpAny_bind (wpAny_specialOf hT nolen_lri ?_)
  show wpAny _ A.in1 (specialOf (Value.ref it) (Str.ofString "__length_hint__") >>= _) _ _ _
  refine wpAny_bind (wpAny_specialOf hT hint_lri ?_)
  generalize hid : ("list_reverseiterator.__length_hint__" : String) = id0
  wp_delta
  rw [show splitId id0 = some ("list_reverseiterator", "__length_hint__") from by subst hid; decide +kernel]
  subst hid
  refine wpAny_bind (wpAny_isInstance (b := true) hT (by rw [isSubtype_type]; kernel_rfl) ?_)
  refine wpAny_pure ?_
  rw [if_neg (by decide)]
  have e0 : ((its.size : Nat) : Int) - 1 - ((0 : Nat) : Int) = (its.size : Int) - 1 := by omega
  refine wpAny_pure ⟨plainId_quiet F.plain_extend_loop _, codeAny_extend_loopS W hn _ hSf _ its.size 0 _ _ _ rfl (Nat.zero_le _) ⟨Nat.zero_le _, by rw [e0]; exact hit, hl⟩ hS (ItemsOf.nil _) fun s' acc c' hm hS' hacc => ?_⟩
  rw [Moved.eq_with hm]
  refine q s'.heap s'.toks acc c' (fun b o h1 h2 e => hm.heap b o (fun hmem => ?_) e) hS' hacc
  rcases List.mem_cons.mp hmem with z | z
  · exact h1 z
  · exact h2 (List.mem_singleton.mp z)
theorem call_lr {Q : Value → Shared → Prop} (hh : A.handled = none) (hit : s.heap.IsRevIter it l ((its.size : Int) - 1)) (hl : s.heap.IsList l its) (n1 : l ≠ it) (hn : its.size ≤ sizeLine)
    (q : ∀ h' tk acc c', (∀ b o, b ≠ it → s.heap.get? b = some o → h'.get? b = some o) → h'.get? s.heap.objs.size = some { cls := .type "list", dict := none, data := .seq acc c', slots := #[] } → ItemsOf (fun i v => its[its.size - 1 - i]? = some v) acc its.size → Q (.ref s.heap.objs.size) { s with heap := h', toks := tk }) :
    wpAny (model prog w) A (call (.type "list") [.ref it]) Q E s := by
  obtain ⟨oi, hoi, _⟩ := id hit
  obtain ⟨ol, hol, _⟩ := id hl
  have n2 : s.heap.objs.size ≠ it := Nat.ne_of_gt (Heap.lt_size hoi)
  have n3 : s.heap.objs.size ≠ l := Nat.ne_of_gt (Heap.lt_size hol)
  refine callType_codes (Q₁ := fun obj s₁ => obj = .ref s.heap.objs.size ∧ s₁ = { s with heap := s.heap.push { cls := .type "list", data := .seq #[] } }) F.called_list (F.typeCall_list_1 _) F.entry_list_init (code_list_new _ ⟨rfl, rfl⟩) fun obj s₁ h₁ => ?_
  obtain ⟨rfl, rfl⟩ := h₁
  have g0 : (s.heap.push { cls := .type "list", data := .seq #[] }).get? s.heap.objs.size = some { cls := .type "list", data := .seq #[] } := Heap.get?_push_size _ rfl
  refine ⟨⟨_, g0, rfl⟩, F.args_list_init_2 _ _, ?_⟩
  show wpAny _ A.in1.in1 (do let old ← Builtin.List.listItems (.ref s.heap.objs.size); Builtin.List.listUpdate (.ref s.heap.objs.size) (fun _ => #[]); letGo old.toList.reverse; Builtin.List.listExtendWith (.ref s.heap.objs.size) (.ref it) .none) _ _ _
  refine wpAny_bind ?_
  unfold Builtin.List.listItems
  refine wpAny_bind (wpAny_seqItems g0 rfl (wpAny_pure ?_))
  show wpAny _ _ (updateSeq s.heap.objs.size (fun _ => #[]) >>= fun _ => letGo (#[] : Array Value).toList.reverse >>= fun _ => Builtin.List.listExtendWith (.ref s.heap.objs.size) (.ref it) .none) _ _ _
  refine wpAny_bind (wpAny_updateSeq g0 rfl ?_)
  have g2 := Heap.get?_update_self (Obj.mapSeq (fun _ => (#[] : Array Value))) g0 rfl
  have oth : ∀ b o, s.heap.get? b = some o → ((s.heap.push { cls := .type "list", data := .seq #[] }).update s.heap.objs.size (Obj.mapSeq (fun _ => (#[] : Array Value)))).get? b = some o :=
    fun b o e => (Heap.get?_update_other _ _ (Ne.symm (Nat.ne_of_lt (Heap.lt_size e)))).trans (Heap.get?_push_of_some _ e)
  refine wpAny_bind (wpAny_letGo ?_)
  refine ext_lr (A := A.in1) hh (hit.at fun o e => oth _ o e) (hl.at fun o e => oth _ o e) n1 n2 n3 hn _ g2 fun h' tk acc c' hk hS' hacc => ?_
  exact ⟨rfl, q h' tk acc c' (fun b o h1 e => hk b o (Nat.ne_of_lt (Heap.lt_size e)) h1 (oth b o e)) hS' hacc⟩
end
end Pd
namespace Pd
open PySem L2 PyProof.Rows RT
section
variable {X : Cx}
def tLRev (K : Frag) (te : TE) : TE := fun σ H Q => te σ H fun v H1 => ∃ (a : Addr) (xs : List V), v = .ref a ∧ SqL K H1 a xs ∧ ∀ q, H1 q = none → Q (.ref q) (upd H1 q (.lst xs.reverse))
theorem pe_lRev {e : Expr} {te : TE} {p p2 pos pos2 : Pos} (hc : X.calm = true) (hg : Gl X "list") (hm : X.mg "list" = none) (hg2 : Gl X "reversed") (hm2 : X.mg "reversed" = none) (he : PE X e te) (hs : starEach [e] X.env = (false, eval e X.env) :: starEach [] X.env := by rfl)
    (hs2 : starEach [.Call (.Name "reversed" p2) [e] [] pos2] X.env = (false, eval (.Call (.Name "reversed" p2) [e] [] pos2) X.env) :: starEach [] X.env := by rfl) :
    PE X (.Call (.Name "list" p) [.Call (.Name "reversed" p2) [e] [] pos2] [] pos) (tLRev X.K te) := by
  refine ⟨fun pins s σ H Q I h => ?_⟩
  refine Call_ (ld_blt I hg hm (show bootBuiltins "list" = some (.type "list") by decide +kernel) (PyProof.Rows.callWith_type1 (args_cons (Call_ (ld_blt I hg2 hm2 PyProof.Rows.boot_reversed (PyProof.Rows.callWith_type1 (args_cons (thn (he.run pins s σ H _ I h) fun u s1 ⟨v, H1, I1, r1, q1⟩ => args_nil ?_) hs) hs rfl))) hs2) hs2 rfl))
  obtain ⟨a, xs, rfl, hq, q⟩ := q1
  obtain rfl : u = Value.ref a := r1
  obtain ⟨f0, f1, f2, f3, f4, f5⟩ := I1.fpOk (H' := H1) (b := s1.heap.objs.size) (Nat.le_refl _) (I1.hok.fresh (Nat.le_refl _))
  obtain ⟨its, rv, pl, hz⟩ := I1.list hq
  have hl := pl.isList
  obtain ⟨ol, hol, _⟩ := id hl
  have ne : a ≠ s1.heap.objs.size := Nat.ne_of_lt (Heap.lt_size hol)
  have hn : its.toArray.size ≤ sizeLine := by rw [List.size_toArray, ← rv.length]; exact hz
  refine call_reversed_list hl (args_nil ?_)
  have I2 : Inv X pins σ H1 { s1 with heap := s1.heap.push (revObj a ((its.toArray.size : Int) - 1)) } := I1.kept (t' := s1.toks) fun b o e => Heap.get?_push_of_some _ e
  have sz : (s1.heap.push (revObj a ((its.toArray.size : Int) - 1))).objs.size = s1.heap.objs.size + 1 := Heap.size_push ..
  refine call_lr (s := { s1 with heap := s1.heap.push (revObj a ((its.toArray.size : Int) - 1)) }) (I1.ok.hd hc) ⟨_, Heap.get?_push_size _ rfl, rfl, rfl⟩ (hl.push _) ne hn fun h' tk acc c' hk hS hi => ?_
  have I3 : Inv X pins σ H1 { s1 with heap := h', toks := tk } := I2.turned (t' := tk) (fun b o hb e => hk b o hb e) f0 f1 f3 f4 f5
  have hfr : H1 (s1.heap.objs.size + 1) = none := I1.hok.fresh (Nat.le_succ _)
  refine ⟨.ref _, upd H1 (s1.heap.push (revObj a ((its.toArray.size : Int) - 1))).objs.size (.lst xs.reverse), ?_, rfl, q _ (by rw [sz]; exact hfr)⟩
  refine I2.turnedNew (t' := tk) (ch := [s1.heap.objs.size]) (fun b o hb e => hk b o (fun z => hb (by simp [z])) e) (fun b hb => ?_) (Nat.le_refl _) ⟨by rw [List.length_reverse]; exact hz, acc.toList, c', vals_rev rv hi, by simpa using hS⟩
  have : b = s1.heap.objs.size := by simpa using hb
  subst this
  exact ⟨f0, f1, f2, f3, f4, f5⟩
end
end Pd
namespace Pd
open PySem L2
section
variable {X : Cx}
def rLRev (x : PV) (w : Wd) (Q : WQ) : Prop := match x with
  | .lst ds => Q (.lst ds.reverse) w
  | _ => False
def wLRev (te : WE) : WE := fun ρ w Q => te ρ w fun x w1 => rLRev x w1 Q
theorem de_lRev {e : Expr} {te : WE} {p p2 pos pos2 : Pos} (hc : X.calm = true) (hg : Gl X "list") (hm : X.mg "list" = none) (hg2 : Gl X "reversed") (hm2 : X.mg "reversed" = none) (he : DE X e te) (hs : starEach [e] X.env = (false, eval e X.env) :: starEach [] X.env := by rfl)
    (hs2 : starEach [.Call (.Name "reversed" p2) [e] [] pos2] X.env = (false, eval (.Call (.Name "reversed" p2) [e] [] pos2) X.env) :: starEach [] X.env := by rfl) :
    DE X (.Call (.Name "list" p) [.Call (.Name "reversed" p2) [e] [] pos2] [] pos) (wLRev te) :=
  pe_le (pe_lRev hc hg hm hg2 hm2 he hs hs2) fun σ H Q ⟨Z, ρ, w, Q', r, h, k⟩ => up1 r h fun x H1 d w1 e1 r1 n h1 => by
    cases n with
    | lst hL hA => exact ⟨_, _, rfl, hL.sq, fun q hq => k _ _ (post_trans e1 (post_lst r1.wk hq (dn_rev hA) h1))⟩
    | _ => exact h1.elim
end
end Pd

/-! enumerate(list), enumerate(tuple) -/
namespace Pd
open PySem L2 PyProof.Rows RT
theorem meets_enum1 {v : Value} {o : Obj} {H : Heap → Prop} (B : Begins v o H) :
    Meets (Builtin.«enumerate.__new__» ⟨[.type "enumerate", v], []⟩) (fun _ R s => H s.heap ∧
      R (.ok (.ret (.ref (s.heap.push o).objs.size))) { s with heap := (s.heap.push o).push { cls := .type "enumerate", data := .fields #[.none, .bool false, .ref s.heap.objs.size, rawInt 0, .none, .none] } }) :=
  .of_wp fun prog w A R s h => by
    obtain ⟨hp, g, d, tk, os⟩ := s; obtain ⟨h1, h⟩ := h
    have hsub := sub_enumerate
    have q1 : ∀ {A' : Around} {E : Value → Shared → Prop} {Q : Value → Shared → Prop}, Q (.ref hp.objs.size) ⟨hp.push o, g, d, tk, os⟩ → wpAny (model prog w) A' (pyIter v) Q E ⟨hp, g, d, tk, os⟩ :=
      fun q => B.iter prog w _ _ ⟨hp, g, d, tk, os⟩ _ h1 q
    wp_walk using q1
    refine wpAny_stack_any fun st => wpAny_pure ?_
    split
    · rename_i c _ _ _ _ _
      cases (c == Value.type "enumerate")
      · wp_walk using q1
        exact ⟨_, rfl, h⟩
      · wp_walk using q1
        exact ⟨_, rfl, h⟩
    · wp_walk using q1
      exact ⟨_, rfl, h⟩
section
variable {prog : Program} {w : World} {A : Around} {E : Value → Shared → Prop} {s : Shared}
theorem call_enumT {l : Addr} {items : Array Value} {Q : Value → Shared → Prop} (hL : s.heap.IsTuple l items)
    (h : ∀ h', IsEnum h' (s.heap.objs.size + 1) s.heap.objs.size 0 .none → h'.IsTupleIter s.heap.objs.size l 0 → h'.objs.size = s.heap.objs.size + 2 →
      (∀ b o, s.heap.get? b = some o → h'.get? b = some o) → Q (.ref (s.heap.objs.size + 1)) { s with heap := h' }) :
    wpAny (model prog w) A (call (.type "enumerate") [.ref l]) Q E s := by
  refine callType_new F.called_enumerate (by decide) (F.typeCall_enumerate_1 _) (F.newCall_enumerate_1 _) (fun obj => F.args_object_init_2 obj _) F.entry_enumerate_new
    (meets_enum1 (begins_tuple l items)) ⟨hL, ?_⟩
  have hz : (s.heap.push { cls := .type "tuple_iterator", data := .fields #[.ref l, .int 0 0] }).objs.size = s.heap.objs.size + 1 := Heap.size_push ..
  show _ ∧ _
  rw [hz]
  have he : IsEnum ((s.heap.push { cls := .type "tuple_iterator", data := .fields #[.ref l, .int 0 0] }).push
      { cls := .type "enumerate", data := .fields #[.none, .bool false, .ref s.heap.objs.size, rawInt 0, .none, .none] }) (s.heap.objs.size + 1) s.heap.objs.size 0 .none := by
    have := Heap.get?_push_size (s.heap.push { cls := .type "tuple_iterator", data := .fields #[.ref l, .int 0 0] })
      (o := { cls := .type "enumerate", data := .fields #[.none, .bool false, .ref s.heap.objs.size, rawInt 0, .none, .none] }) rfl
    rw [hz] at this; exact this
  refine ⟨⟨_, he, rfl⟩, h _ he ⟨_, Heap.get?_push_of_some _ (Heap.get?_push_size _ rfl), rfl, rfl⟩ (by rw [Heap.size_push, hz]) fun b o x => Heap.get?_push_of_some _ (Heap.get?_push_of_some _ x)⟩
end
/-- the tuple at a, each item in a new pair -/
def IteT (K : PySem.W.Frag) (a : Addr) : It :=
  ⟨fun i H => ∃ (xs : List V) (x : V), SqT K H a xs ∧ xs[i]? = some x, fun i H v H' => ∃ T x, v = .ref T ∧ H T = none ∧ H' = upd H T (.tup [.int (i : Nat), x]) ∧ ∀ xs, SqT K H a xs → xs[i]? = some x, fun i H => ∃ xs : List V, SqT K H a xs ∧ xs.length = i⟩
theorem turn_enumT {P : Program} {w : World} {K : PySem.W.Frag} {elts : List Expr} {kk : Nat} {tpos : Pos} (a e it : Addr) (hai : a ≠ it) (hea : e ≠ a) :
    Turn P w K (.Tuple elts kk tpos) (IteT K a) [e, it] e (fun i h => (∃ old, IsEnum h e it ((i : Nat) : Int) old) ∧ h.IsTupleIter it a i ∧ e ≠ it) where
  mem := by simp
  obj := fun i h st b hb => by
    obtain ⟨⟨old, he⟩, ⟨o, ho, hc, hd⟩, _⟩ := st
    have e' : b = e ∨ b = it := by simpa using hb
    rcases e' with z | z
    · rw [z]; exact ⟨_, he, fun v q => nomatch q⟩
    · rw [z]; exact ⟨o, ho, fun v q => by rw [hd] at q; cases q⟩
  keep := fun i h h' st k => let ⟨⟨old, he⟩, hi, hne⟩ := st; ⟨⟨old, k e (by simp) _ he⟩, hi.at fun o q => k it (by simp) o q, hne⟩
  item := by
    intro X hP hw hK hc i pins s σ H E I hf st hg
    subst hP hw hK
    obtain ⟨⟨old, he⟩, hit, hne⟩ := st
    obtain ⟨xs, x, hq, hx⟩ := hg
    obtain ⟨its, rv, p, hz⟩ := I.tuple hq
    obtain ⟨u, hu, ru⟩ := rv.get hx
    have hel : e < s.heap.objs.size := Heap.lt_size he
    have hil : it < s.heap.objs.size := by obtain ⟨_, q, _⟩ := hit; exact Heap.lt_size q
    have hlt : i < its.toArray.size := by
      rcases Nat.lt_or_ge i its.length with q | q
      · simpa using q
      · rw [List.getElem?_eq_none q] at hu; cases hu
    refine wpAny_pyNext_enum_itemD (Draws.tuple (show X.A.in1.handled = none from I.ok.hd hc) it a hai its.toArray) he ⟨hit, (show s.heap.IsTuple a its.toArray from p)⟩ hlt hne (by simp [hne, hea]) fun u' h' tk hp ho hit' hT hsz hk => ?_
    have e0 : u' = u := by
      have : its[i]? = some u' := by simpa using hp
      rw [hu] at this; cases this; rfl
    subst e0
    refine ⟨_, rfl, wpAny_letOwnedTupleGo_enum (s := { s with heap := h', toks := tk + 1 }) ho fun h'' he' sb => ?_⟩
    have hT2 : h''.get? s.heap.objs.size = some { cls := .type "tuple", data := .seq #[.int i tk, u'] } := (sb.2 _ (Nat.ne_of_gt hel)).trans hT
    have new : ObjOk X.prog X.w (upd H s.heap.objs.size (.tup [.int (i : Nat), x])) h'' s.heap.objs.size (.tup [.int (i : Nat), x]) :=
      ⟨by show 2 ≤ sizeLine; decide, [.int i tk, u'], .cons ⟨_, rfl⟩ (.cons ru .nil), ⟨_, hT2, rfl, _, rfl⟩⟩
    have I1 : Inv X pins σ (upd H s.heap.objs.size (.tup [.int (i : Nat), x])) { s with heap := h'', toks := tk + 1 } :=
      I.turnedNew (t' := tk + 1) (ch := [e, it]) (fun b ob hb q => (sb.2 b (fun z => hb (by simp [z]))).trans (hk b ob (fun z => hb (by simp [z])) (fun z => hb (by simp [z])) q)) hf (Nat.le_refl _) new
    refine ⟨.ref s.heap.objs.size, _, I1, rfl, ⟨_, x, rfl, I.hok.fresh (Nat.le_refl _), rfl, fun ys hy => by rw [I.tuple_inj hy hq]; exact hx⟩, ⟨⟨u', ?_⟩, hit'.1.at fun o q => (sb.2 it (Ne.symm hne)).trans q, hne⟩, fun b hb => ?_⟩
    · have e1 : ((i + 1 : Nat) : Int) = (i : Int) + 1 := by omega
      rw [e1]; exact he'
    · have hb' : b < s.heap.objs.size := by
        have e' : b = e ∨ b = it := by simpa using hb
        rcases e' with z | z
        · rw [z]; exact hel
        · rw [z]; exact hil
      rw [upd_ne (Nat.ne_of_lt hb')]
      exact (hf b hb).1
  done := by
    intro X hP hw hK hc i pins s σ H E I hf st hg
    subst hP hw hK
    obtain ⟨⟨old, he⟩, hit, hne⟩ := st
    obtain ⟨xs, hq, hx⟩ := hg
    obtain ⟨its, rv, p, hz⟩ := I.tuple hq
    obtain ⟨f0, f1, f2, f3, f4, f5⟩ := hf it (by simp)
    have hl := rv.length
    have ei : i = its.toArray.size := by simp; omega
    subst ei
    exact wpAny_pyNext_enum_endD (Draws.tuple (show X.A.in1.handled = none from I.ok.hd hc) it a hai its.toArray) he ⟨hit, (show s.heap.IsTuple a its.toArray from p)⟩ fun h' eb => ⟨rfl, I.turned (t' := s.toks) (fun b o hb q => eb b o hb q) f0 f1 f3 f4 f5⟩
  self := fun A i s Q E st h => let ⟨⟨_, he⟩, _⟩ := st; wpAny_pyIter_enum he h
def iEnumT (K : PySem.W.Frag) (ta : TA) : TI := fun σ H R => ta σ H fun vs H1 => ∃ a xs, vs = [.ref a] ∧ ((SqL K H1 a xs ∧ R (Ite K a) H1) ∨ (SqT K H1 a xs ∧ R (IteT K a) H1))
theorem pi_enumT {X : Cx} {e : Expr} {ta : TA} {p pos tpos : Pos} {elts : List Expr} {kk : Nat} (hg : Gl X "enumerate") (hm : X.mg "enumerate" = none) (ha : PA X [e] ta) (hs : starEach [e] X.env = [(false, eval e X.env)] := by rfl) :
    PI X (.Tuple elts kk tpos) (.Call (.Name "enumerate" p) [e] [] pos) (iEnumT X.K ta) := by
  refine ⟨fun pins s σ H R I h => ?_⟩
  refine Call_ (ld_blt I hg hm boot_enumerate (PyProof.Rows.callWith_type1 (thn (ha.run pos pins s σ H _ I h) fun us s1 ⟨vs, H1, I1, r1, q1⟩ => ?_) hs rfl))
  obtain ⟨a, xs, ex, q⟩ := q1
  subst ex
  cases r1 with
  | cons r rr =>
    cases rr
    cases r
    have new : ∀ b, b = s1.heap.objs.size + 1 ∨ b = s1.heap.objs.size → FpOk X pins H1 b := fun b e' => by
      have hle : s1.heap.objs.size ≤ b := by
        rcases e' with z | z
        · rw [z]; exact Nat.le_add_right _ _
        · rw [z]; exact Nat.le_refl _
      exact I1.fpOk hle (I1.hok.fresh hle)
    rcases q with ⟨hq, q⟩ | ⟨hq, q⟩
    · obtain ⟨its, rv, p', hz⟩ := I1.list hq
      refine call_enumerate_list p'.isList fun h' he hit hsz hk => wpAny_pyIter_enum he ?_
      have I2 : Inv X pins σ H1 { s1 with heap := h' } := I1.kept (t' := s1.toks) hk
      exact ⟨s1.heap.objs.size + 1, [s1.heap.objs.size + 1, s1.heap.objs.size], _, _, H1, rfl, I2, turn_enum a (s1.heap.objs.size + 1) s1.heap.objs.size, ⟨⟨.none, he⟩, hit, Nat.succ_ne_self _⟩, fun b hb => new b (by simpa using hb), q⟩
    · obtain ⟨its, rv, p', hz⟩ := I1.tuple hq
      have p2 : s1.heap.IsTuple a its.toArray := p'
      have la : a < s1.heap.objs.size := by obtain ⟨_, q, _⟩ := p2; exact Heap.lt_size q
      refine call_enumT p2 fun h' he hit hsz hk => wpAny_pyIter_enum he ?_
      have I2 : Inv X pins σ H1 { s1 with heap := h' } := I1.kept (t' := s1.toks) hk
      exact ⟨s1.heap.objs.size + 1, [s1.heap.objs.size + 1, s1.heap.objs.size], _, _, H1, rfl, I2, turn_enumT a (s1.heap.objs.size + 1) s1.heap.objs.size (Nat.ne_of_lt la) (Nat.ne_of_gt (Nat.lt_succ_of_lt la)), ⟨⟨.none, he⟩, hit, Nat.succ_ne_self _⟩, fun b hb => new b (by simpa using hb), q⟩
/-- the items with their numbers -/
def enums (ds : List PV) : List PV := ds.zipIdx.map fun x => .tup [.int (x.2 : Nat), x.1]
theorem enums_len (ds : List PV) : (enums ds).length = ds.length := by simp [enums]
theorem enums_at {ds : List PV} {i : Nat} {d : PV} (h : ds[i]? = some d) : (enums ds)[i]? = some (.tup [.int (i : Nat), d]) := by
  simp [enums, List.getElem?_zipIdx, h]
theorem itd_enumL {K : Kz} {w : Wd} {H : Hp} {a : Addr} {xs : List V} {ds : List PV} (h : ∀ w' H', Ext w H w' H' → SqL K.K.F H' a xs) (n : DnAll K w H xs ds) : ItD K (Ite K.K.F a) w H (enums ds) where
  go := fun i w' H' e hi => by
    rw [enums_len] at hi
    obtain ⟨v, h1, _⟩ := n.get (List.getElem?_eq_getElem hi)
    exact ⟨xs, v, h _ _ e, h1⟩
  yld := fun i w' H' x H'' Z' e z k hi ⟨T, v, h1, h2, h3, h4⟩ => by
    subst h1; subst h3
    obtain ⟨d, q1, q2⟩ := n.get' (h4 xs (h _ _ e))
    exact ⟨_, enums_at q1, Ext.new k h2, k.new h2, .tup (.inl ⟨k.off h2, k.nz h2, upd_same⟩) (.cons (.int _) (.cons (((q2.hide z).ext e).ext (Ext.new k h2)) .nil))⟩
  stop := fun w' H' e => ⟨xs, h _ _ e, by rw [n.length, enums_len]; exact Nat.le_refl _⟩
theorem itd_enumT {K : Kz} {w : Wd} {H : Hp} {a : Addr} {xs : List V} {ds : List PV} (h : Tp K w H a xs) (n : DnAll K w H xs ds) : ItD K (IteT K.K.F a) w H (enums ds) where
  go := fun i w' H' e hi => by
    rw [enums_len] at hi
    obtain ⟨v, h1, _⟩ := n.get (List.getElem?_eq_getElem hi)
    exact ⟨xs, v, (h.ext e).sq, h1⟩
  yld := fun i w' H' x H'' Z' e z k hi ⟨T, v, h1, h2, h3, h4⟩ => by
    subst h1; subst h3
    obtain ⟨d, q1, q2⟩ := n.get' (h4 xs (h.ext e).sq)
    exact ⟨_, enums_at q1, Ext.new k h2, k.new h2, .tup (.inl ⟨k.off h2, k.nz h2, upd_same⟩) (.cons (.int _) (.cons (((q2.hide z).ext e).ext (Ext.new k h2)) .nil))⟩
  stop := fun w' H' e => ⟨xs, (h.ext e).sq, by rw [n.length, enums_len]⟩
def rEnum (ds : List PV) (k : List PV → Prop) : Prop := match ds with
  | [.lst xs] => k (enums xs)
  | [.scr xs] => k (enums xs)
  | [.tup xs] => k (enums xs)
  | _ => False
def wEnumerate (ta : WA) : WI := fun ρ w Q => ta ρ w fun ds w1 => rEnum ds fun xs => Q xs w1
theorem di_enumerate {X : Cx} {e : Expr} {ta : WA} {p pos tpos : Pos} {elts : List Expr} {kk : Nat} (hg : Gl X "enumerate") (hm : X.mg "enumerate" = none) (ha : DA X [e] ta) (hs : starEach [e] X.env = [(false, eval e X.env)] := by rfl) :
    DI X (.Tuple elts kk tpos) (.Call (.Name "enumerate" p) [e] [] pos) (wEnumerate ta) :=
  pi_le (pi_enumT hg hm ha hs) fun σ H R ⟨Z, ρ, w, Q', r, h, k⟩ => upA1 r h fun vs H1 ds w1 e1 r1 n h1 => by
    unfold rEnum at h1
    split at h1
    · obtain ⟨v, rfl, n1⟩ := dall1 n
      cases n1 with
      | lst hp hn => exact ⟨_, _, rfl, .inl ⟨hp.sq, k _ _ _ _ e1 r1.wk (itd_enumL (fun _ _ e => (hp.ext e).sq) hn) h1⟩⟩
    · obtain ⟨v, rfl, n1⟩ := dall1 n
      cases n1 with
      | scr hp hn => exact ⟨_, _, rfl, .inl ⟨hp.sq, k _ _ _ _ e1 r1.wk (itd_enumL (fun _ _ e => (hp.ext e).sq) hn) h1⟩⟩
    · obtain ⟨v, rfl, n1⟩ := dall1 n
      cases n1 with
      | tup hp hn => exact ⟨_, _, rfl, .inr ⟨hp.sq, k _ _ _ _ e1 r1.wk (itd_enumT hp hn) h1⟩⟩
    · exact h1.elim
section
variable {ρ : Sl} {w : Wd} {TA : WA} {ds : List PV}
instance s_enumI {N : List PV → Wd → Prop} : Stp (wEnumerate TA ρ w N) (TA ρ w fun ds w1 => rEnum ds fun xs => N xs w1) := ⟨id⟩
instance s_enumL {N : List PV → Prop} : Stp (rEnum [.lst ds] N) (N (enums ds)) := ⟨id⟩
instance s_enumT {N : List PV → Prop} : Stp (rEnum [.tup ds] N) (N (enums ds)) := ⟨id⟩
end
end Pd

/-! all(x), any(x): of a list or a tuple of truths -/
namespace Pd
open PySem L2
def cBlsX (f : List Bool → Bool) : RcD := fun ds w Q => match ds with
  | [.lst es] => ∃ bs, blsOf es = some bs ∧ Q (.bl (f bs)) w
  | [.tup es] => ∃ bs, blsOf es = some bs ∧ Q (.bl (f bs)) w
  | _ => False
def cAllX : RcD := cBlsX (·.all id)
def cAnyX : RcD := cBlsX (·.any id)
section
variable {X : Cx}
theorem cr_allT (hc : X.calm = true) : CallR X (.builtin "all") (fun vs H Q => ∃ (a : Addr) (bs : List Bool), vs = [V.ref a] ∧ SqT X.K H a (bs.map V.bl) ∧ Q (.bl (bs.all id)) H) := by
  intro pins s σ H vs us Q I r h
  obtain ⟨a, bs, rfl, hs, q⟩ := h
  obtain ⟨its, rv, hl, _⟩ := I.tuple hs
  have hl : s.heap.IsTuple a its.toArray := hl
  rw [Vals.ref1 r]
  have hb := rv.bls
  have hlt : a < s.heap.objs.size := by obtain ⟨_, e, _⟩ := hl; exact Heap.lt_size e
  refine call_all_walk (wpAny_pyIter_tuple hl ?_)
  refine ⟨_, _, _, _, _, _, _, rfl, Walks.tuple (A := X.A.in1) (I.ok.hd hc) _ a (Nat.ne_of_lt hlt) its.toArray, ⟨⟨_, Heap.get?_push_size _ rfl, rfl, rfl⟩, hl.push _⟩, truth_bools hb, fun h' tk hk => ?_⟩
  refine ⟨.bl _, H, I.kept fun b o eo => hk b o (fun hmem => ?_) (Heap.get?_push_of_some _ eo), ?_, q⟩
  · rcases List.mem_cons.mp hmem with e1 | hmem
    · exact absurd (e1 ▸ Heap.lt_size eo) (Nat.lt_irrefl _)
    · cases hmem
  · show Value.bool _ = Value.bool _
    rw [← all_range, hb, List.size_toArray, List.length_map]
theorem ca_allX (hc : X.calm = true) : CaD X (.builtin "all") cAllX := by
  obtain ⟨r0, h1, h2⟩ := (ca_all (X := X) hc).ex
  refine ⟨fun vs H Q => r0 vs H Q ∨ (∃ (a : Addr) (bs : List Bool), vs = [V.ref a] ∧ SqT X.K H a (bs.map V.bl) ∧ Q (.bl (bs.all id)) H), ?_, fun Z xs H ds w Q' Q k n h kq => ?_⟩
  · intro pins s σ H vs us Q I r h
    rcases h with h | h
    · exact h1 pins s σ H vs us Q I r h
    · exact cr_allT hc pins s σ H vs us Q I r h
  · unfold cAllX cBlsX at h
    split at h
    · exact .inl (h2 Z xs H _ w Q' Q k n h kq)
    · obtain ⟨v, rfl, n1⟩ := dall1 n
      cases n1 with
      | tup hl hn =>
        obtain ⟨bs, hb, q⟩ := h
        have e := blsOf_dn hb hn
        subst e
        exact .inr ⟨_, bs, rfl, hl.sq, kq _ _ (post_same k (.bl _) q)⟩
    · exact h.elim
theorem cr_anyT (hc : X.calm = true) : CallR X (.builtin "any") (fun vs H Q => ∃ (a : Addr) (bs : List Bool), vs = [V.ref a] ∧ SqT X.K H a (bs.map V.bl) ∧ Q (.bl (bs.any id)) H) := by
  intro pins s σ H vs us Q I r h
  obtain ⟨a, bs, rfl, hs, q⟩ := h
  obtain ⟨its, rv, hl, _⟩ := I.tuple hs
  have hl : s.heap.IsTuple a its.toArray := hl
  rw [Vals.ref1 r]
  have hb := rv.bls
  have hlt : a < s.heap.objs.size := by obtain ⟨_, e, _⟩ := hl; exact Heap.lt_size e
  refine call_any_walk (wpAny_pyIter_tuple hl ?_)
  refine ⟨_, _, _, _, _, _, _, rfl, Walks.tuple (A := X.A.in1) (I.ok.hd hc) _ a (Nat.ne_of_lt hlt) its.toArray, ⟨⟨_, Heap.get?_push_size _ rfl, rfl, rfl⟩, hl.push _⟩, truth_bools hb, fun h' tk hk => ?_⟩
  refine ⟨.bl _, H, I.kept fun b o eo => hk b o (fun hmem => ?_) (Heap.get?_push_of_some _ eo), ?_, q⟩
  · rcases List.mem_cons.mp hmem with e1 | hmem
    · exact absurd (e1 ▸ Heap.lt_size eo) (Nat.lt_irrefl _)
    · cases hmem
  · show Value.bool _ = Value.bool _
    rw [← any_range, hb, List.size_toArray, List.length_map]
theorem ca_anyX (hc : X.calm = true) : CaD X (.builtin "any") cAnyX := by
  obtain ⟨r0, h1, h2⟩ := (ca_any (X := X) hc).ex
  refine ⟨fun vs H Q => r0 vs H Q ∨ (∃ (a : Addr) (bs : List Bool), vs = [V.ref a] ∧ SqT X.K H a (bs.map V.bl) ∧ Q (.bl (bs.any id)) H), ?_, fun Z xs H ds w Q' Q k n h kq => ?_⟩
  · intro pins s σ H vs us Q I r h
    rcases h with h | h
    · exact h1 pins s σ H vs us Q I r h
    · exact cr_anyT hc pins s σ H vs us Q I r h
  · unfold cAnyX cBlsX at h
    split at h
    · exact .inl (h2 Z xs H _ w Q' Q k n h kq)
    · obtain ⟨v, rfl, n1⟩ := dall1 n
      cases n1 with
      | tup hl hn =>
        obtain ⟨bs, hb, q⟩ := h
        have e := blsOf_dn hb hn
        subst e
        exact .inr ⟨_, bs, rfl, hl.sq, kq _ _ (post_same k (.bl _) q)⟩
    · exact h.elim
end
end Pd

/-! further steps -/
namespace Pd
open PySem L2
section
variable {ρ : Sl} {w : Wd} {Q : WQ} {ds es : List PV} {a : Addr} {k i : Int} {s z : Str} {b : Bool} {te : WE}
theorem x_mulT (h1 : 0 ≤ k) (h2 : k ≤ 1000) (h3 : ds.length ≤ 1000) (h : Q (.tup (List.replicate k.toNat ds).flatten) w) : dMulT (.tup ds) (.int k) w Q := ⟨⟨h1, h2, h3⟩, h⟩
theorem x_tupR (hw : w a = some (.lst ds)) (h : Q (.tup ds) w) : cTuple [.ref a] w Q := by unfold cTuple seqOf; simp only [vw, hw]; exact h
theorem x_listR (hw : w a = some (.lst ds)) (h : Q (.lst ds) w) : cList [.ref a] w Q := by unfold cList seqOf; simp only [vw, hw]; exact h
theorem x_addRL (hw : w a = some (.lst ds)) (hl : ds.length + es.length ≤ sizeLine) (h : Q (.lst (ds ++ es)) w) : dAdd (.ref a) (.lst es) w Q := by unfold dAdd; simp only [vw, hw]; exact ⟨hl, h⟩
theorem x_ixR {d : PV} (hw : w a = some (.lst ds)) (e : atI ds i = some d) (h : Q d w) : dIx (.ref a) (.int i) w Q := by unfold dIx; simp only [vw, hw]; exact ⟨d, e, h⟩
instance s_lRev : Stp (wLRev te ρ w Q) (te ρ w fun x w1 => rLRev x w1 Q) := ⟨id⟩
instance s_rLRev : Stp (rLRev (.lst ds) w Q) (Q (.lst ds.reverse) w) := ⟨id⟩
theorem x_ifSet' {c : Prop} [Decidable c] {D : WEnds} {n : Nat} {i j : PV} (h : ∀ d, d = i ∨ d = j → D.nx (ρ.set n (some d)) w) (hρ : ρ.set n (some j) = ρ) : if decide c = true then wAsg (wC i) (wName n) D ρ w else wNext D ρ w :=
  x_ite (fun _ => h i (.inl rfl)) fun _ => by have := h j (.inr rfl); rw [hρ] at this; exact this
theorem x_ixMem (h0 : 0 ≤ i) (h1 : i < ds.length) (h : ∀ d, d ∈ ds → Q d w) : dIx (.lst ds) (.int i) w Q := by
  obtain ⟨d, hd, hm⟩ := atI_lt (xs := ds) h0 h1
  exact x_ixL hd (h d hm)
theorem x_ixMemT (h0 : 0 ≤ i) (h1 : i < ds.length) (h : ∀ d, d ∈ ds → Q d w) : dIx (.tup ds) (.int i) w Q := by
  obtain ⟨d, hd, hm⟩ := atI_lt (xs := ds) h0 h1
  exact x_ixT hd (h d hm)
end
section
variable {ρ : Sl} {w : Wd} {Q : WQ} {te t : WE} {k : Key} {kts : List (Key × WE)} {kvs : List (Key × PV)} {s : Str} {d : PV} {i : Int}
instance s_ixV : Stp (wIxV kts te ρ w Q) (wVals kts ρ w fun kvs w1 => te ρ w1 fun y w2 => rIxD kvs y w2 Q) := ⟨id⟩
instance s_valsN {N : List (Key × PV) → Wd → Prop} : Stp (wVals [] ρ w N) (N [] w) := ⟨id⟩
instance s_valsC {N : List (Key × PV) → Wd → Prop} : Stp (wVals ((k, t) :: kts) ρ w N) (t ρ w fun d w1 => wVals kts ρ w1 fun kvs w2 => N ((k, d) :: kvs) w2) := ⟨id⟩
theorem x_rixS (e : valP kvs (.inr s) = some d) (h : Q d w) : rIxD kvs (.str s) w Q := ⟨d, e, h⟩
instance s_rixHit : Stp (rIxD ((.inr s, d) :: kvs) (.str s) w Q) (Q d w) := ⟨fun h => ⟨d, by simp [valP, List.find?_cons], h⟩⟩
theorem x_rixMiss {z : Str} (ne : z ≠ s) (h : rIxD kvs (.str s) w Q) : rIxD ((.inr z, d) :: kvs) (.str s) w Q := by
  obtain ⟨d', e, q⟩ := h
  refine ⟨d', ?_, q⟩
  have : valP ((.inr z, d) :: kvs) (.inr s) = valP kvs (.inr s) := by simp [valP, List.find?_cons, ne]
  rw [this]; exact e
theorem x_rixI (e : valP kvs (.inl i) = some d) (h : Q d w) : rIxD kvs (.int i) w Q := ⟨d, e, h⟩
end
/-! loops -/
theorem x_forC {g : WG} {tb : WS} {E : WEnds} {d : PV} {r : List PV} {ρ : Sl} {w : Wd} (h : g d ρ w fun ρ1 w1 => tb { nx := forD g tb E r, rt := E.rt, bk := E.nx, ct := forD g tb E r } ρ1 w1) : forD g tb E (d :: r) ρ w := h
theorem x_forN {g : WG} {tb : WS} {E : WEnds} {ρ : Sl} {w : Wd} (h : E.nx ρ w) : forD g tb E [] ρ w := h
theorem for_enum {α : Type} {g : WG} {tb : WS} {E : WEnds} (f : α → PV) (xs : List α) (I : Nat → Sl → Wd → Prop) (h0 : ∀ ρ w, I xs.length ρ w → E.nx ρ w)
    (hs : ∀ i x ρ w (N : Sl → Wd → Prop), xs[i]? = some x → (∀ ρ w, I (i + 1) ρ w → N ρ w) → I i ρ w → g (.tup [.int (i : Nat), f x]) ρ w fun ρ1 w1 => tb { nx := N, rt := E.rt, bk := E.nx, ct := N } ρ1 w1) {ρ : Sl} {w : Wd} (h : I 0 ρ w) : forD g tb E (enums (xs.map f)) ρ w := by
  have key : ∀ (n i : Nat) ρ w, i + n = xs.length → I i ρ w → forD g tb E ((enums (xs.map f)).drop i) ρ w := by
    intro n
    induction n with
    | zero =>
      intro i ρ w e hi
      have : (enums (xs.map f)).drop i = [] := List.drop_eq_nil_of_le (by rw [enums_len, List.length_map]; omega)
      rw [this]
      exact h0 ρ w (by rw [← e]; exact hi)
    | succ n ih =>
      intro i ρ w e hi
      have hl : i < xs.length := by omega
      have hx : xs[i]? = some xs[i] := by simp [hl]
      have hq : (enums (xs.map f))[i]? = some (.tup [.int (i : Nat), f xs[i]]) := enums_at (by simp [hl])
      have hl2 : i < (enums (xs.map f)).length := by rw [enums_len, List.length_map]; exact hl
      rw [List.drop_eq_getElem_cons hl2]
      rw [List.getElem?_eq_getElem hl2] at hq
      rw [Option.some.inj hq]
      exact hs i xs[i] ρ w _ hx (fun ρ w hi => ih (i + 1) ρ w (by omega) hi) hi
  have := key xs.length 0 ρ w (by omega) h
  simpa using this
theorem wh_ind {tc : WT} {tb : WS} {E : WEnds} (I : Nat → Sl → Wd → Prop) (h0 : ∀ ρ w, ¬ I 0 ρ w)
    (hs : ∀ m ρ w (N : Sl → Wd → Prop), (∀ ρ w, I m ρ w → N ρ w) → I (m + 1) ρ w → tc ρ w fun b w1 => if b = true then tb { nx := N, rt := E.rt, bk := E.nx, ct := N } ρ w1 else E.nx ρ w1) : ∀ m ρ w, I m ρ w → whD tc tb E m ρ w
  | 0, ρ, w, h => (h0 ρ w h).elim
  | m + 1, ρ, w, h => hs m ρ w _ (wh_ind I h0 hs m) h
theorem x_while {tc : WT} {tb : WS} {E : WEnds} {ρ : Sl} {w : Wd} (n : Nat) (h : whD tc tb E n ρ w) : wWhile tc tb E ρ w := ⟨n, h⟩
/-! numbers in lists of numbers -/
def nI (n : Nat) : PV := .int n
theorem any_nI (k : Nat) : ∀ L : List Nat, ((L.map nI).any fun e => PV.eqb e (.int k)) = decide (k ∈ L)
  | [] => rfl
  | x :: r => by
    rw [List.map_cons, List.any_cons, any_nI k r]
    by_cases e : x = k
    · subst e; simp [nI, PV.eqb]
    · have : PV.eqb (nI x) (.int k) = false := by simp [nI, PV.eqb]; omega
      rw [this]; simp [Ne.symm e]
theorem pls_nI : ∀ L : List Nat, PV.pls (L.map nI) = true
  | [] => rfl
  | x :: r => by simp [PV.pls, PV.pl, nI]; exact pls_nI r
section
variable {w : Wd} {Q : WQ} {k : Nat} {L : List Nat} {b : Bool}
theorem x_inI (e : decide (k ∈ L) = b) (h : Q (.bl b) w) : dIn false (.int k) (.lst (L.map nI)) w Q := by
  refine ⟨⟨by simp [PV.pl], pls_nI L, by simp [PV.dep]⟩, ?_⟩
  rw [any_nI, e]; exact h
theorem x_ninI (e : decide (k ∈ L) = b) (h : Q (.bl (!b)) w) : dIn true (.int k) (.lst (L.map nI)) w Q := by
  refine ⟨⟨by simp [PV.pl], pls_nI L, by simp [PV.dep]⟩, ?_⟩
  rw [any_nI, e]; exact h
end
section
variable {w : Wd} {Q : WQ} {i j k l : Int} {s z1 z2 z3 z4 : Str}
theorem eqb_pairI : PV.eqb (.tup [.int i, .int j]) (.tup [.int k, .int l]) = (decide (i = k) && decide (j = l)) := by
  rw [PV.eqb, PV.eqbs, PV.eqbs, PV.eqbs, PV.eqb, PV.eqb, Bool.and_true, Bool.beq_eq_decide_eq, Bool.beq_eq_decide_eq]
instance s_eqT2 : Stp (dEq (.tup [.int i, .int j]) (.tup [.int k, .int l]) w Q) (Q (.bl (decide (i = k) && decide (j = l))) w) := ⟨fun h => by
  refine x_eq (by simp [PV.pl, PV.pls]) (by simp [PV.pl, PV.pls]) (by simp [PV.dep, PV.deps]) ?_
  rw [eqb_pairI]; exact h⟩
theorem sb (a b : Str) : (a == b) = decide (b = a) := by
  rw [str_beq]; exact Bool.eq_iff_iff.mpr (by simp; exact eq_comm)
instance s_in4 : Stp (dIn false (.str s) (.tup [.str z1, .str z2, .str z3, .str z4]) w Q) (Q (.bl (decide (s = z1) || (decide (s = z2) || (decide (s = z3) || decide (s = z4))))) w) := ⟨fun h => by
  refine ⟨⟨by simp [PV.pl], by simp [PV.pls, PV.pl], by simp [PV.dep]⟩, ?_⟩
  simp only [List.any_cons, List.any_nil, PV.eqb, sb, Bool.or_false]; exact h⟩
end
/-! the law's hand: three numbers; what the draws leave as it is -/
/-- a hand of three: a cell, a number mixed, how often it was asked -/
def HandT (m : MO) (f : Nat) : Prop := ∃ (x y c : Int), m = .lst [.int x, .int y, .int c] ∧ 0 ≤ x ∧ 0 ≤ y ∧ y < 2 ^ 63 ∧ 0 ≤ c ∧ c + f ≤ 2 ^ 40
def Hnd (w : Wd) (a : Addr) (f : Nat) : Prop := ∃ m, w a = some m ∧ HandT m f
theorem Hnd.le {w : Wd} {a : Addr} {f g : Nat} (h : Hnd w a f) (hg : g ≤ f) : Hnd w a g := by
  obtain ⟨m, hm, x, y, c, e, h1, h2, h3, h4, h5⟩ := h
  exact ⟨m, hm, x, y, c, e, h1, h2, h3, h4, by omega⟩
def Frm (a : Addr) (w w' : Wd) : Prop := ∀ b, b ≠ a → w' b = w b
theorem Frm.refl (a : Addr) (w : Wd) : Frm a w w := fun _ _ => rfl
theorem Frm.trans {a : Addr} {w w1 w2 : Wd} (h : Frm a w w1) (h' : Frm a w1 w2) : Frm a w w2 := fun b hb => (h' b hb).trans (h b hb)
theorem Frm.set (a : Addr) (w : Wd) (m : MO) : Frm a w (wset w a m) := fun _ hb => wset_ne hb
def qTake : PSp := fun ds w Q => ∃ (a : Addr) (m : Int) (f : Nat), ds = [.ref a, .int m] ∧ 0 < m ∧ m < 2 ^ 64 ∧ Hnd w a (f + 1) ∧ ∀ (i : Int) w', 0 ≤ i → i < m → Hnd w' a f → Frm a w w' → Q (.int i) w'
theorem hnd_set {w' : Wd} {a : Addr} {x y c : Int} {f : Nat} (h1 : 0 ≤ x) (h2 : 0 ≤ y) (h3 : y < 2 ^ 63) (h4 : 0 ≤ c) (h5 : c + f ≤ 2 ^ 40) : Hnd (wset w' a (.lst [.int x, .int y, .int c])) a f :=
  ⟨_, wset_same, x, y, c, rfl, h1, h2, h3, h4, h5⟩
/-- a hand of the script's k-th cell -/
def qHandK : PSp := fun ds w Q => ∃ (ns : List Int) (k : Int), ds = [.scr (ns.map PV.int), .int k] ∧ 0 ≤ k ∧ k < 1000000 ∧ ∀ a m, w a = none → HandT m (2 ^ 39) → Q (.ref a) (wset w a m)
/-- a thing that is drawn, by so many draws -/
def qThingT (n : Nat) (p : PV → Bool) : PSp := fun ds w Q => ∃ a f, ds = [.ref a] ∧ Hnd w a (f + n) ∧ ∀ d w', p d = true → Hnd w' a f → Frm a w w' → Q d w'
theorem Frm.get {a p : Addr} {w w' : Wd} {m : Option MO} (f : Frm a w w') (np : p ≠ a) (h : w p = m) : w' p = m := (f p np).trans h
theorem Hnd.set {w : Wd} {a p : Addr} {m : MO} {f : Nat} (h : Hnd w a f) (np : p ≠ a) : Hnd (wset w p m) a f := by
  obtain ⟨m', h1, h2⟩ := h
  exact ⟨m', by rw [wset_ne (Ne.symm np)]; exact h1, h2⟩
theorem Hnd.del {w : Wd} {a p : Addr} {f : Nat} (h : Hnd w a f) (np : p ≠ a) : Hnd (wdel w p) a f := by
  obtain ⟨m', h1, h2⟩ := h
  exact ⟨m', by unfold wdel; rw [if_neg (Ne.symm np)]; exact h1, h2⟩
theorem Hnd.off {w : Wd} {a p : Addr} {f : Nat} (h : Hnd w a f) (hp : w p = none) : p ≠ a := fun z => by
  obtain ⟨m', h1, h2⟩ := h
  rw [z, h1] at hp; cases hp
theorem wset_get {w : Wd} {a b : Addr} {m : MO} {r : Option MO} (ne : b ≠ a) (h : w b = r) : wset w a m b = r := (wset_ne ne).trans h
theorem x_ifSet {c : Prop} [Decidable c] {D : WEnds} {ρ : Sl} {w : Wd} {n : Nat} {i j : PV} (h : ∀ d, d = i ∨ d = j → D.nx (ρ.set n (some d)) w) (hρ : ρ.set n (some j) = ρ) : if decide c = true then wAsg (wC i) (wName n) D ρ w else wNext D ρ w :=
  x_ite (fun _ => h i (.inl rfl)) fun _ => by have := h j (.inr rfl); rw [hρ] at this; exact this
theorem cutD_hi {α : Type} (xs : List α) {i : Int} (h0 : 0 ≤ i) : (cutD xs none (some i)).length = min i.toNat xs.length := by
  obtain ⟨k, rfl⟩ := Int.eq_ofNat_of_zero_le h0
  unfold cutD
  rw [HT.sIx_nat, HT.sIx_none, List.length_take, List.length_drop]
  simp
theorem cutD_lo {α : Type} (xs : List α) {i : Int} (h0 : 0 ≤ i) : (cutD xs (some i) none).length = xs.length - i.toNat := by
  obtain ⟨k, rfl⟩ := Int.eq_ofNat_of_zero_le h0
  unfold cutD
  rw [HT.sIx_nat, HT.sIx_none, List.length_take, List.length_drop]
  simp; omega
theorem x_take {a : Addr} {m : Int} {w : Wd} {Q : WQ} {F : Nat} (hH : Hnd w a F) (h0 : 0 < m) (h1 : m < 2 ^ 64) (hF : 1 ≤ F) (k : ∀ i w', 0 ≤ i → i < m → Hnd w' a (F - 1) → Frm a w w' → Q (.int i) w') : qTake [.ref a, .int m] w Q :=
  ⟨a, m, F - 1, rfl, h0, h1, hH.le (by omega), k⟩
end Pd

/-! plans: plain mathematics -/
namespace Pl
open PySem Pd
abbrev Mv := Str × Nat
def encM (m : Mv) : PV := .tup [.str m.1, .int m.2]
/-- the ends of the bows -/
abbrev Bs := List (Nat × Nat)
structure PatOk (n : Nat) (bs : Bs) : Prop where
  n1 : 1 ≤ n
  n5 : n ≤ 5
  m5 : bs.length ≤ 5
  lt : ∀ b ∈ bs, b.1 < n ∧ b.2 < n
/-- what a thing is as a move -/
def moveOf (n m : Nat) : PV → Option Mv
  | .tup [.str w, .int k] =>
    if w = "lay" then (if 0 ≤ k ∧ k < n then some (w, k.toNat) else none)
    else if w = "forth" ∨ w = "back" ∨ w = "meet" then (if 0 ≤ k ∧ k < m then some (w, k.toNat) else none)
    else none
  | _ => none
abbrev Fl := List Bool × List Bool
def stepP (bs : Bs) (s : Fl) (m : Mv) : Option Fl :=
  if m.1 = "lay" then (if s.1.getD m.2 false = true then none else some (s.1.set m.2 true, s.2))
  else if s.2.getD m.2 false = true then none
  else
    let b := bs.getD m.2 (0, 0)
    let due := if m.1 = "forth" then (true, false) else if m.1 = "back" then (false, true) else (true, true)
    if (s.1.getD b.1 false, s.1.getD b.2 false) = due then some ((if m.1 = "forth" then s.1.set b.2 true else if m.1 = "back" then s.1.set b.1 true else s.1), s.2.set m.2 true)
    else none
def planP (n : Nat) (bs : Bs) : Fl → List PV → Bool
  | s, [] => s.1.all id && s.2.all id
  | s, d :: r => match moveOf n bs.length d with
    | none => false
    | some m => match stepP bs s m with
      | none => false
      | some s' => planP n bs s' r
abbrev Ls := List Nat × List Nat
def bowsOf (bs : Bs) (w : Str) (p : Nat → Nat × Nat → Bool) : List Mv := (bs.zipIdx.filter fun x => p x.2 x.1).map fun x => (w, x.2)
def movesL (n : Nat) (bs : Bs) (s : Ls) : List Mv :=
  (bowsOf bs "back" (fun k b => !decide (k ∈ s.2) && (!decide (b.1 ∈ s.1) && decide (b.2 ∈ s.1))) ++ bowsOf bs "forth" (fun k b => !decide (k ∈ s.2) && (decide (b.1 ∈ s.1) && !decide (b.2 ∈ s.1))))
   ++ ((List.range n).filter fun i => !decide (i ∈ s.1)).map (fun i => (("lay" : Str), i))
   ++ bowsOf bs "meet" (fun k b => !decide (k ∈ s.2) && (decide (b.1 ∈ s.1) && decide (b.2 ∈ s.1)))
def behL (bs : Bs) (s : Ls) (m : Mv) : Ls :=
  if m.1 = "lay" then (s.1 ++ [m.2], s.2)
  else ((if m.1 = "forth" then s.1 ++ [(bs.getD m.2 (0, 0)).2] else if m.1 = "back" then s.1 ++ [(bs.getD m.2 (0, 0)).1] else s.1), s.2 ++ [m.2])
/-- what the law looks at ahead of the moves -/
def pairB : PV → Bool
  | .tup [_, .bl _] => false
  | .tup [_, _] => true
  | _ => false
def planL (n : Nat) (bs : Bs) : Ls → List PV → Bool
  | s, [] => decide (s.1.length = n) && decide (s.2.length = bs.length)
  | s, d :: r => if pairB d && (movesL n bs s).any (fun m => PV.eqb (encM m) d) then (match moveOf n bs.length d with
      | some m => planL n bs (behL bs s m) r
      | none => false) else false
theorem eqb_pair (x y a b : PV) : PV.eqb (.tup [x, y]) (.tup [a, b]) = (PV.eqb x a && PV.eqb y b) := by
  rw [PV.eqb, PV.eqbs, PV.eqbs, PV.eqbs, Bool.and_true]
theorem eqb_enc {m : Mv} {d : PV} (h : pairB d = true) (e : PV.eqb (encM m) d = true) : d = encM m := by
  unfold encM at e ⊢
  unfold pairB at h
  split at h
  · cases h
  · rename_i a b hb
    rw [eqb_pair, Bool.and_eq_true] at e
    obtain ⟨e1, e2⟩ := e
    cases a <;> simp [PV.eqb] at e1
    cases b <;> simp [PV.eqb] at e2
    · first | exact (hb _ _).elim | exact (hb _ rfl).elim
    · rw [e1, e2]
  · cases h
theorem sBL : ("back" : Str) ≠ "lay" := by decide
theorem sFL : ("forth" : Str) ≠ "lay" := by decide
theorem sML : ("meet" : Str) ≠ "lay" := by decide
theorem sBF : ("back" : Str) ≠ "forth" := by decide
theorem sMF : ("meet" : Str) ≠ "forth" := by decide
theorem sMB : ("meet" : Str) ≠ "back" := by decide
theorem sLF : ("lay" : Str) ≠ "forth" := by decide
theorem eqb_self (m : Mv) : PV.eqb (encM m) (encM m) = true := by
  unfold encM; rw [eqb_pair]; simp [PV.eqb]
theorem pair_enc (m : Mv) : pairB (encM m) = true := rfl
theorem mem_bows {bs : Bs} {w : Str} {p : Nat → Nat × Nat → Bool} {x : Mv} : x ∈ bowsOf bs w p ↔ x.1 = w ∧ ∃ b, bs[x.2]? = some b ∧ p x.2 b = true := by
  unfold bowsOf
  simp only [List.mem_map, List.mem_filter]
  constructor
  · rintro ⟨⟨b, k⟩, ⟨h1, h2⟩, rfl⟩
    exact ⟨rfl, b, by simpa using List.mem_zipIdx_iff_getElem?.mp h1, h2⟩
  · rintro ⟨e, b, h1, h2⟩
    refine ⟨(b, x.2), ⟨?_, h2⟩, ?_⟩
    · exact List.mem_zipIdx_iff_getElem?.mpr h1
    · rw [← e]
theorem mem_moves {n : Nat} {bs : Bs} {s : Ls} {x : Mv} : x ∈ movesL n bs s ↔
    (x.1 = "lay" ∧ x.2 < n ∧ x.2 ∉ s.1) ∨ (∃ b, bs[x.2]? = some b ∧ x.2 ∉ s.2 ∧ ((x.1 = "back" ∧ b.1 ∉ s.1 ∧ b.2 ∈ s.1) ∨ (x.1 = "forth" ∧ b.1 ∈ s.1 ∧ b.2 ∉ s.1) ∨ (x.1 = "meet" ∧ b.1 ∈ s.1 ∧ b.2 ∈ s.1))) := by
  unfold movesL
  simp only [List.mem_append, mem_bows, List.mem_map, List.mem_filter, List.mem_range, Bool.and_eq_true, Bool.not_eq_true', decide_eq_false_iff_not, decide_eq_true_eq]
  constructor
  · rintro (((⟨e, b, h1, h2, h3, h4⟩ | ⟨e, b, h1, h2, h3, h4⟩) | ⟨i, ⟨h1, h2⟩, rfl⟩) | ⟨e, b, h1, h2, h3, h4⟩)
    · exact .inr ⟨b, h1, h2, .inl ⟨e, h3, h4⟩⟩
    · exact .inr ⟨b, h1, h2, .inr (.inl ⟨e, h3, h4⟩)⟩
    · exact .inl ⟨rfl, h1, h2⟩
    · exact .inr ⟨b, h1, h2, .inr (.inr ⟨e, h3, h4⟩)⟩
  · rintro (⟨e, h1, h2⟩ | ⟨b, h1, h2, ⟨e, h3, h4⟩ | ⟨e, h3, h4⟩ | ⟨e, h3, h4⟩⟩)
    · exact .inl (.inr ⟨x.2, ⟨h1, h2⟩, by rw [← e]⟩)
    · exact .inl (.inl (.inl ⟨e, b, h1, h2, h3, h4⟩))
    · exact .inl (.inl (.inr ⟨e, b, h1, h2, h3, h4⟩))
    · exact .inr ⟨e, b, h1, h2, h3, h4⟩
/-- flags and lists say the same -/
structure Ag (F : List Bool) (xs : List Nat) : Prop where
  at_ : ∀ i, F.getD i false = true ↔ i ∈ xs
  cnt : F.count true = xs.length
theorem getD_set {F : List Bool} {k i : Nat} (h : k < F.length) : (F.set k true).getD i false = if i = k then true else F.getD i false := by
  rw [List.getD_eq_getElem?_getD, List.getD_eq_getElem?_getD, List.getElem?_set]
  split
  · rename_i e; subst e; simp
  · rename_i e; rw [if_neg (Ne.symm e)]
theorem count_set : ∀ {F : List Bool} {k : Nat}, k < F.length → F.getD k false = false → (F.set k true).count true = F.count true + 1
  | [], k, h, _ => absurd h (Nat.not_lt_zero _)
  | b :: r, 0, _, e => by
    have : b = false := by simpa using e
    subst this
    simp
  | b :: r, k + 1, h, e => by
    have := count_set (F := r) (k := k) (by simpa using h) (by simpa using e)
    simp only [List.set_cons_succ, List.count_cons, this]; omega
theorem Ag.add {F : List Bool} {xs : List Nat} {k : Nat} (a : Ag F xs) (h : k < F.length) (n : k ∉ xs) : Ag (F.set k true) (xs ++ [k]) := by
  have e : F.getD k false = false := by
    cases q : F.getD k false with
    | false => rfl
    | true => exact absurd ((a.at_ k).mp q) n
  refine ⟨fun i => ?_, ?_⟩
  · rw [getD_set h, List.mem_append, List.mem_singleton]
    split
    · rename_i z; simp [z]
    · rename_i z; rw [a.at_ i]; simp [z]
  · rw [count_set h e, a.cnt, List.length_append]; rfl
theorem all_count : ∀ F : List Bool, F.all id = decide (F.count true = F.length)
  | [] => rfl
  | b :: r => by
    have := List.count_le_length (a := true) (l := r)
    cases b with
    | true => simp only [List.all_cons, all_count r, id_eq, Bool.true_and, List.count_cons, List.length_cons, beq_self_eq_true, if_true]; simp
    | false => simp only [List.all_cons, id_eq, Bool.false_and, List.count_cons, List.length_cons]; simp; omega
structure Agr (n : Nat) (bs : Bs) (s : Fl) (t : Ls) : Prop where
  l1 : s.1.length = n
  l2 : s.2.length = bs.length
  a1 : Ag s.1 t.1
  a2 : Ag s.2 t.2
theorem getD_lt {bs : Bs} {k : Nat} {b : Nat × Nat} (h : bs[k]? = some b) : k < bs.length ∧ bs.getD k (0, 0) = b := by
  refine ⟨?_, by rw [List.getD_eq_getElem?_getD, h]; rfl⟩
  rcases Nat.lt_or_ge k bs.length with q | q
  · exact q
  · rw [List.getElem?_eq_none q] at h; cases h
theorem bool_eq {b : Bool} {p : Prop} (h : b = true ↔ p) : (b = false ↔ ¬ p) := by
  cases b <;> simp at h ⊢ <;> exact h
theorem step_of {n : Nat} {bs : Bs} {s : Fl} {t : Ls} (po : PatOk n bs) (a : Agr n bs s t) {x : Mv} (h : x ∈ movesL n bs t) :
    moveOf n bs.length (encM x) = some x ∧ ∃ s', stepP bs s x = some s' ∧ Agr n bs s' (behL bs t x) := by
  obtain ⟨w, k⟩ := x
  have b1 : ∀ i, s.1.getD i false = false ↔ i ∉ t.1 := fun i => bool_eq (a.a1.at_ i)
  have b2 : ∀ i, s.2.getD i false = false ↔ i ∉ t.2 := fun i => bool_eq (a.a2.at_ i)
  rcases mem_moves.mp h with ⟨e, h1, h2⟩ | ⟨b, h1, h2, h3⟩
  · simp only at e h1 h2
    subst e
    refine ⟨by simp [encM, moveOf, h1], (s.1.set k true, s.2), ?_, ?_⟩
    · simp only [stepP, if_true, (b1 k).mpr h2, Bool.false_eq_true, if_false]
    · simp only [behL, if_true]
      exact ⟨by simp [a.l1], a.l2, a.a1.add (by rw [a.l1]; exact h1) h2, a.a2⟩
  · simp only at h1 h2 h3
    obtain ⟨hk, hd⟩ := getD_lt h1
    have hb := po.lt b (List.mem_of_getElem? h1)
    rcases h3 with ⟨e, h4, h5⟩ | ⟨e, h4, h5⟩ | ⟨e, h4, h5⟩
    · subst e
      refine ⟨by simp [encM, moveOf, hk, sBL, sFL, sML], (s.1.set b.1 true, s.2.set k true), ?_, ?_⟩
      · have z1 := (b1 b.1).mpr h4; have z2 := (a.a1.at_ b.2).mpr h5; have z3 := (b2 k).mpr h2
        simp only [stepP, hd, z1, z2, z3]; simp [sBL, sFL, sML, sBF, sMF, sMB]
      · simp only [behL, hd]; simp only [sBL, sFL, sML, sBF, sMF, sMB, if_true, if_false]
        exact ⟨by simp [a.l1], by simp [a.l2], a.a1.add (by rw [a.l1]; exact hb.1) h4, a.a2.add (by rw [a.l2]; exact hk) h2⟩
    · subst e
      refine ⟨by simp [encM, moveOf, hk, sBL, sFL, sML], (s.1.set b.2 true, s.2.set k true), ?_, ?_⟩
      · have z1 := (a.a1.at_ b.1).mpr h4; have z2 := (b1 b.2).mpr h5; have z3 := (b2 k).mpr h2
        simp only [stepP, hd, z1, z2, z3]; simp [sBL, sFL, sML, sBF, sMF, sMB]
      · simp only [behL, hd]; simp only [sBL, sFL, sML, sBF, sMF, sMB, if_true, if_false]
        exact ⟨by simp [a.l1], by simp [a.l2], a.a1.add (by rw [a.l1]; exact hb.2) h5, a.a2.add (by rw [a.l2]; exact hk) h2⟩
    · subst e
      refine ⟨by simp [encM, moveOf, hk, sBL, sFL, sML], (s.1, s.2.set k true), ?_, ?_⟩
      · have z1 := (a.a1.at_ b.1).mpr h4; have z2 := (a.a1.at_ b.2).mpr h5; have z3 := (b2 k).mpr h2
        simp only [stepP, hd, z1, z2, z3]; simp [sBL, sFL, sML, sBF, sMF, sMB]
      · simp only [behL, hd]; simp only [sBL, sFL, sML, sBF, sMF, sMB, if_true, if_false]
        exact ⟨a.l1, by simp [a.l2], a.a1, a.a2.add (by rw [a.l2]; exact hk) h2⟩
theorem moveOf_enc {n m : Nat} {d : PV} {x : Mv} (h : moveOf n m d = some x) : d = encM x ∧ ((x.1 = "lay" ∧ x.2 < n) ∨ ((x.1 = "forth" ∨ x.1 = "back" ∨ x.1 = "meet") ∧ x.1 ≠ "lay" ∧ x.2 < m)) := by
  unfold moveOf at h
  split at h
  · rename_i w k
    split at h
    · rename_i e
      split at h
      · rename_i hk; cases h
        refine ⟨by simp only [encM]; congr; omega, .inl ⟨e, by simp only; omega⟩⟩
      · cases h
    · rename_i e
      split at h
      · rename_i e2
        split at h
        · rename_i hk; cases h
          refine ⟨by simp only [encM]; congr; omega, .inr ⟨e2, e, by simp only; omega⟩⟩
        · cases h
      · cases h
  · cases h
theorem step_mem {n : Nat} {bs : Bs} {s s' : Fl} {t : Ls} (a : Agr n bs s t) {d : PV} {x : Mv} (h : moveOf n bs.length d = some x) (hs : stepP bs s x = some s') : x ∈ movesL n bs t := by
  obtain ⟨_, h1⟩ := moveOf_enc h
  obtain ⟨w, k⟩ := x
  have b1 : ∀ i, ¬ (s.1.getD i false = true) ↔ i ∉ t.1 := fun i => not_congr (a.a1.at_ i)
  have b2 : ∀ i, ¬ (s.2.getD i false = true) ↔ i ∉ t.2 := fun i => not_congr (a.a2.at_ i)
  rw [mem_moves]
  simp only at h1 ⊢
  rcases h1 with ⟨e, hk⟩ | ⟨e, ne, hk⟩
  · subst e
    refine .inl ⟨rfl, hk, ?_⟩
    simp only [stepP, if_true] at hs
    split at hs
    · cases hs
    · rename_i z; exact (b1 k).mp z
  · refine .inr ⟨bs[k], by simp [hk], ?_⟩
    have gd : bs.getD k (0, 0) = bs[k] := by rw [List.getD_eq_getElem?_getD]; simp [hk]
    have ta := a.a1.at_
    simp only [stepP, if_neg ne, gd] at hs
    split at hs
    · cases hs
    · rename_i z
      refine ⟨(b2 k).mp z, ?_⟩
      by_cases z2 : (s.1.getD bs[k].1 false, s.1.getD bs[k].2 false) = (if w = "forth" then (true, false) else if w = "back" then (false, true) else (true, true))
      · rcases e with e | e | e <;> subst e <;> simp [sBF, sMF, sMB] at z2
        · exact .inr (.inl ⟨rfl, (ta _).mp (by simpa using z2.1), (b1 _).mp (by simpa using z2.2)⟩)
        · exact .inl ⟨rfl, (b1 _).mp (by simpa using z2.1), (ta _).mp (by simpa using z2.2)⟩
        · exact .inr (.inr ⟨rfl, (ta _).mp (by simpa using z2.1), (ta _).mp (by simpa using z2.2)⟩)
      · rw [if_neg z2] at hs; cases hs
theorem plan_same {n : Nat} {bs : Bs} (po : PatOk n bs) : ∀ (ds : List PV) {s : Fl} {t : Ls}, Agr n bs s t → planP n bs s ds = planL n bs t ds
  | [], s, t, a => by
    simp only [planP, planL, all_count, a.a1.cnt, a.a2.cnt, a.l1, a.l2]
  | d :: r, s, t, a => by
    simp only [planL]
    by_cases c : (pairB d && (movesL n bs t).any (fun m => PV.eqb (encM m) d)) = true
    · rw [if_pos c]
      rw [Bool.and_eq_true, List.any_eq_true] at c
      obtain ⟨c1, x, hx, c2⟩ := c
      have e := eqb_enc c1 c2
      subst e
      obtain ⟨h1, s', h2, h3⟩ := step_of po a hx
      simp only [planP, h1, h2]
      exact plan_same po r h3
    · rw [if_neg c]
      simp only [planP]
      cases e : moveOf n bs.length d with
      | none => rfl
      | some x =>
        simp only
        cases e2 : stepP bs s x with
        | none => rfl
        | some s' =>
          have hm := step_mem a e e2
          refine absurd ?_ c
          rw [(moveOf_enc e).1, Bool.and_eq_true, List.any_eq_true]
          exact ⟨rfl, x, hm, eqb_self x⟩
def s0 (n : Nat) (bs : Bs) : Fl := (List.replicate n false, List.replicate bs.length false)
theorem ag0 (n : Nat) : Ag (List.replicate n false) [] := ⟨fun i => by
  rw [List.getD_eq_getElem?_getD, List.getElem?_replicate]; split <;> simp, by simp [List.count_replicate]⟩
theorem agr0 (n : Nat) (bs : Bs) : Agr n bs (s0 n bs) ([], []) := ⟨by simp [s0], by simp [s0], ag0 n, ag0 _⟩
/-- moves drawn one behind the other until there is none -/
inductive Run (n : Nat) (bs : Bs) : Ls → List Mv → Ls → Prop
  | nil (t : Ls) : Run n bs t [] t
  | snoc {t u : Ls} {ms : List Mv} {m : Mv} : Run n bs t ms u → m ∈ movesL n bs u → Run n bs t (ms ++ [m]) (behL bs u m)
theorem run_plan {n : Nat} {bs : Bs} {t u : Ls} {ms : List Mv} (h : Run n bs t ms u) (po : PatOk n bs) {s : Fl} (a : Agr n bs s t) : ∃ s', Agr n bs s' u ∧ ∀ r, planL n bs t (ms.map encM ++ r) = planL n bs u r := by
  induction h with
  | nil => exact ⟨s, a, fun r => rfl⟩
  | @snoc u ms m h hm ih =>
    obtain ⟨s1, a1, e1⟩ := ih
    obtain ⟨q1, s2, q2, a2⟩ := step_of po a1 hm
    refine ⟨s2, a2, fun r => ?_⟩
    rw [List.map_append, List.append_assoc, e1]
    simp only [List.map_cons, List.map_nil, List.cons_append, List.nil_append, planL]
    rw [if_pos (by rw [Bool.and_eq_true, List.any_eq_true]; exact ⟨rfl, m, hm, eqb_self m⟩), q1]
theorem done_of {n : Nat} {bs : Bs} (po : PatOk n bs) {s : Fl} {t : Ls} (a : Agr n bs s t) (h : movesL n bs t = []) : planL n bs t [] = true := by
  have no : ∀ x, x ∉ movesL n bs t := fun x => by rw [h]; exact fun z => nomatch z
  have i1 : ∀ i, i < n → i ∈ t.1 := fun i hi => by
    refine Classical.byContradiction fun z => no ("lay", i) (mem_moves.mpr (.inl ⟨rfl, hi, z⟩))
  have i2 : ∀ k, k < bs.length → k ∈ t.2 := fun k hk => by
    refine Classical.byContradiction fun z => no ("meet", k) (mem_moves.mpr (.inr ⟨bs[k], by simp [hk], z, .inr (.inr ⟨rfl, i1 _ (po.lt _ (List.getElem_mem hk)).1, i1 _ (po.lt _ (List.getElem_mem hk)).2⟩)⟩))
  have full : ∀ {F : List Bool} {xs : List Nat}, Ag F xs → (∀ i, i < F.length → i ∈ xs) → F.all id = true := by
    intro F xs ag hi
    rw [List.all_eq_true]
    intro b hb
    obtain ⟨i, hl, rfl⟩ := List.getElem_of_mem hb
    have := (ag.at_ i).mpr (hi i hl)
    rw [List.getD_eq_getElem?_getD, List.getElem?_eq_getElem hl] at this
    exact this
  have q : planP n bs s [] = true := by
    simp only [planP, Bool.and_eq_true]
    exact ⟨full a.a1 (by rw [a.l1]; exact i1), full a.a2 (by rw [a.l2]; exact i2)⟩
  rw [← plan_same po [] a]; exact q
theorem run_done {n : Nat} {bs : Bs} (po : PatOk n bs) {u : Ls} {ms : List Mv} (h : Run n bs ([], []) ms u) (e : movesL n bs u = []) : planL n bs ([], []) (ms.map encM) = true := by
  obtain ⟨s', a, q⟩ := run_plan h po (agr0 n bs)
  have := q []
  rw [List.append_nil] at this
  rw [this]
  exact done_of po a e
/-- how much is to come -/
def left (n : Nat) (bs : Bs) (t : Ls) : Nat := (n + bs.length) - (t.1.length + t.2.length)
theorem run_ag {n : Nat} {bs : Bs} (po : PatOk n bs) {u : Ls} {ms : List Mv} (h : Run n bs ([], []) ms u) : ∃ s, Agr n bs s u := by
  obtain ⟨s', a, q⟩ := run_plan h po (agr0 n bs)
  exact ⟨s', a⟩
theorem ag_le {F : List Bool} {xs : List Nat} (a : Ag F xs) : xs.length ≤ F.length := by
  rw [← a.cnt]; exact List.count_le_length
theorem left_lt {n : Nat} {bs : Bs} (po : PatOk n bs) {u : Ls} {ms : List Mv} (h : Run n bs ([], []) ms u) {m : Mv} (hm : m ∈ movesL n bs u) : left n bs (behL bs u m) < left n bs u := by
  obtain ⟨s, a⟩ := run_ag po (.snoc h hm)
  have l1 := ag_le a.a1; have l2 := ag_le a.a2
  rw [a.l1] at l1; rw [a.l2] at l2
  unfold left
  have : u.1.length + u.2.length < (behL bs u m).1.length + (behL bs u m).2.length := by
    unfold behL
    split
    · simp
    · simp only [List.length_append, List.length_cons, List.length_nil]
      split
      · simp; omega
      · split
        · simp; omega
        · omega
  omega
theorem run_len {n : Nat} {bs : Bs} (po : PatOk n bs) {u : Ls} {ms : List Mv} (h : Run n bs ([], []) ms u) : ms.length + left n bs u ≤ n + bs.length := by
  generalize e : (([], []) : Ls) = t at h
  induction h with
  | nil => subst e; simp [left]
  | @snoc u ms m h hm ih =>
    subst e
    have := left_lt po h hm
    have := ih
    rw [List.length_append]; simp; omega
theorem moves_first {n : Nat} {bs : Bs} (po : PatOk n bs) : movesL n bs ([], []) ≠ [] := fun e => by
  have : (("lay" : Str), 0) ∈ movesL n bs ([], []) := mem_moves.mpr (.inl ⟨rfl, po.n1, by simp⟩)
  rw [e] at this; exact nomatch this
end Pl

namespace Lw
open PySem L2 Pd
def top (i : Nat) : Stmt := PySem.Challenge.pw_webstore_k57_plans_or_not.main.body.getD i (.Pass ⟨0, 0, 0, 0⟩)
abbrev s_is_move : Stmt := top 1
abbrev n_is_move : List Str := ["pattern", "move", "many"]
theorem sc_is_move : FnScope n_is_move ["pattern", "move"] (defScope s_is_move) := ⟨rfl, rfl, rfl, by decide +kernel, rfl, by decide +kernel, by decide +kernel⟩
abbrev s_state_behind : Stmt := top 2
abbrev n_state_behind : List Str := ["pattern", "state", "move", "spots", "bows", "word", "k", "first", "second", "due"]
theorem sc_state_behind : FnScope n_state_behind ["pattern", "state", "move"] (defScope s_state_behind) := ⟨rfl, rfl, rfl, by decide +kernel, rfl, by decide +kernel, by decide +kernel⟩
abbrev s_with_true : Stmt := top 3
abbrev n_with_true : List Str := ["flags", "k"]
theorem sc_with_true : FnScope n_with_true ["flags", "k"] (defScope s_with_true) := ⟨rfl, rfl, rfl, by decide +kernel, rfl, by decide +kernel, by decide +kernel⟩
abbrev s_first_state : Stmt := top 4
abbrev n_first_state : List Str := ["pattern"]
theorem sc_first_state : FnScope n_first_state ["pattern"] (defScope s_first_state) := ⟨rfl, rfl, rfl, by decide +kernel, rfl, by decide +kernel, by decide +kernel⟩
abbrev s_is_done : Stmt := top 5
abbrev n_is_done : List Str := ["state"]
theorem sc_is_done : FnScope n_is_done ["state"] (defScope s_is_done) := ⟨rfl, rfl, rfl, by decide +kernel, rfl, by decide +kernel, by decide +kernel⟩
abbrev s_is_plan : Stmt := top 6
abbrev n_is_plan : List Str := ["pattern", "thing", "state", "move"]
theorem sc_is_plan : FnScope n_is_plan ["pattern", "thing"] (defScope s_is_plan) := ⟨rfl, rfl, rfl, by decide +kernel, rfl, by decide +kernel, by decide +kernel⟩
abbrev s__law_box : Stmt := top 8
abbrev n__law_box : List Str := ["_law_script", "_law_k", "_law_cell"]
theorem sc__law_box : FnScope n__law_box ["_law_script", "_law_k"] (defScope s__law_box) := ⟨rfl, rfl, rfl, by decide +kernel, rfl, by decide +kernel, by decide +kernel⟩
abbrev s__law_take : Stmt := top 9
abbrev n__law_take : List Str := ["_law_box_here", "_law_many", "_law_digit", "_law_m"]
theorem sc__law_take : FnScope n__law_take ["_law_box_here", "_law_many"] (defScope s__law_take) := ⟨rfl, rfl, rfl, by decide +kernel, rfl, by decide +kernel, by decide +kernel⟩
abbrev s__law_pattern : Stmt := top 10
abbrev n__law_pattern : List Str := ["_law_box_here", "_law_size", "_law_spots", "_law_bows", "_law_k", "_law_way"]
theorem sc__law_pattern : FnScope n__law_pattern ["_law_box_here"] (defScope s__law_pattern) := ⟨rfl, rfl, rfl, by decide +kernel, rfl, by decide +kernel, by decide +kernel⟩
abbrev s__law_moves : Stmt := top 11
abbrev n__law_moves : List Str := ["_law_pattern_here", "_law_spots", "_law_bows", "_law_moves_here", "_law_word", "_law_due", "_law_k", "_law_bow", "_law_i"]
theorem sc__law_moves : FnScope n__law_moves ["_law_pattern_here", "_law_spots", "_law_bows"] (defScope s__law_moves) := ⟨rfl, rfl, rfl, by decide +kernel, rfl, by decide +kernel, by decide +kernel⟩
abbrev s__law_behind : Stmt := top 12
abbrev n__law_behind : List Str := ["_law_pattern_here", "_law_spots", "_law_bows", "_law_move", "_law_word", "_law_k"]
theorem sc__law_behind : FnScope n__law_behind ["_law_pattern_here", "_law_spots", "_law_bows", "_law_move"] (defScope s__law_behind) := ⟨rfl, rfl, rfl, by decide +kernel, rfl, by decide +kernel, by decide +kernel⟩
abbrev s__law_plan : Stmt := top 13
abbrev n__law_plan : List Str := ["_law_box_here", "_law_pattern_here", "_law_plan_here", "_law_spots", "_law_bows", "_law_moves_here"]
theorem sc__law_plan : FnScope n__law_plan ["_law_box_here", "_law_pattern_here"] (defScope s__law_plan) := ⟨rfl, rfl, rfl, by decide +kernel, rfl, by decide +kernel, by decide +kernel⟩
abbrev s__law_is_plan : Stmt := top 14
abbrev n__law_is_plan : List Str := ["_law_pattern_here", "_law_thing", "_law_spots", "_law_bows", "_law_move"]
theorem sc__law_is_plan : FnScope n__law_is_plan ["_law_pattern_here", "_law_thing"] (defScope s__law_is_plan) := ⟨rfl, rfl, rfl, by decide +kernel, rfl, by decide +kernel, by decide +kernel⟩
abbrev s__law_bent : Stmt := top 15
abbrev n__law_bent : List Str := ["_law_box_here", "_law_pattern_here", "_law_plan_here", "_law_at", "_law_word", "_law_number", "_law_rest", "_law_some", "_law_odd"]
theorem sc__law_bent : FnScope n__law_bent ["_law_box_here", "_law_pattern_here", "_law_plan_here"] (defScope s__law_bent) := ⟨rfl, rfl, rfl, by decide +kernel, rfl, by decide +kernel, by decide +kernel⟩
abbrev s_law : Stmt := top 16
abbrev n_law : List Str := ["_law_script", "_law_pattern_here", "_law_k", "_law_box_here", "_law_plan_here", "_law_turn", "_law_thing", "_law_found"]
theorem sc_law : FnScope n_law ["_law_script"] (defScope s_law) := ⟨rfl, rfl, rfl, by decide +kernel, rfl, by decide +kernel, by decide +kernel⟩
structure Tx (K : Frag) (mg : Str → Option Value) : Prop where
  f_is_move : Fx K mg "is_move" s_is_move ["pattern", "move"]
  f_state_behind : Fx K mg "state_behind" s_state_behind ["pattern", "state", "move"]
  f_with_true : Fx K mg "with_true" s_with_true ["flags", "k"]
  f_first_state : Fx K mg "first_state" s_first_state ["pattern"]
  f_is_done : Fx K mg "is_done" s_is_done ["state"]
  f_is_plan : Fx K mg "is_plan" s_is_plan ["pattern", "thing"]
  f__law_box : Fx K mg "_law_box" s__law_box ["_law_script", "_law_k"]
  f__law_take : Fx K mg "_law_take" s__law_take ["_law_box_here", "_law_many"]
  f__law_pattern : Fx K mg "_law_pattern" s__law_pattern ["_law_box_here"]
  f__law_moves : Fx K mg "_law_moves" s__law_moves ["_law_pattern_here", "_law_spots", "_law_bows"]
  f__law_behind : Fx K mg "_law_behind" s__law_behind ["_law_pattern_here", "_law_spots", "_law_bows", "_law_move"]
  f__law_plan : Fx K mg "_law_plan" s__law_plan ["_law_box_here", "_law_pattern_here"]
  f__law_is_plan : Fx K mg "_law_is_plan" s__law_is_plan ["_law_pattern_here", "_law_thing"]
  f__law_bent : Fx K mg "_law_bent" s__law_bent ["_law_box_here", "_law_pattern_here", "_law_plan_here"]
  z_abs : mg "abs" = none
  z_all : mg "all" = none
  z_bool : mg "bool" = none
  z_enumerate : mg "enumerate" = none
  z_int : mg "int" = none
  z_isinstance : mg "isinstance" = none
  z_len : mg "len" = none
  z_list : mg "list" = none
  z_min : mg "min" = none
  z_range : mg "range" = none
  z_reversed : mg "reversed" = none
  z_str : mg "str" = none
  z_tuple : mg "tuple" = none
section
variable {P : Program} {w : World} {K : Frag} {mg : Str → Option Value} {base : Heap}
def rd_is_move : WS :=
  (wSeq2 (wIf (wOrT (wNotT (wTest (wCB (cI "tuple" isTupP) (wCons (wVar 1) (wCons (wC (.ty "tuple")) wNil))))) (wOrT (wTest (wOp (dNe) (wCB cLen (wCons (wVar 1) wNil)) (wC (.int 2)))) (wNotT (wTest (wCB (cI "str" isStrP) (wCons (wIxC 0 (wVar 1)) (wCons (wC (.ty "str")) wNil))))))) (wRet (wC (.bl false))) wNext) (wSeq2 (wIf (wOrT (wNotT (wTest (wCB (cI "int" isIntP) (wCons (wIxC 1 (wVar 1)) (wCons (wC (.ty "int")) wNil))))) (wTest (wCB (cI "bool" isBoolP) (wCons (wIxC 1 (wVar 1)) (wCons (wC (.ty "bool")) wNil))))) (wRet (wC (.bl false))) wNext) (wSeq2 (wAsg (wCB cLen (wCons (wIxC 1 (wVar 0)) wNil)) (wName 2)) (wSeq2 (wIf (wTest (wOp (dEq) (wIxC 0 (wVar 1)) (wC (.str "lay")))) (wAsg (wCB cLen (wCons (wIxC 0 (wVar 0)) wNil)) (wName 2)) wNext) (wRet (wAndV (wOp (dIn false) (wIxC 0 (wVar 1)) (wTup (wCons (wC (.str "lay")) (wCons (wC (.str "forth")) (wCons (wC (.str "back")) (wCons (wC (.str "meet")) wNil)))))) (wChain (dLe) (dLt) (wC (.int 0)) (wIxC 1 (wVar 1)) (wVar 2))))))))
theorem dv_is_move {k : Nat} (T : Tx K mg) : ∀ (f : Addr) (cdv : Value) (A : Around) (outer : List Env) (s : Shared) (H : Hp) (E : XK), Room k (A.deeper (PyProof.Rows.envOfC "is_move" (defScope s_is_move) s.heap.objs.size f cdv)) →
    DSs (cxOf CX0 P w K mg base n_is_move "is_move" (defScope s_is_move) f cdv A outer s H E).nox (defBody s_is_move) (rd_is_move) := fun f cdv A outer s H E hr =>
  (ds_cons (ds_if (dt_w (dw_or (dt_not (dt_val (de_callB (ca_i tr_tup) (by rfl) T.z_isinstance (by decide +kernel) (da_cons (de_var 1) (da_cons (de_ty (by rfl) T.z_tuple (by decide +kernel)) da_nil))))) (dw_or (dt_cm (cm_ne hr.units) (de_callB (ca_len) (by rfl) T.z_len (by decide +kernel) (da_cons (de_var 1) da_nil)) de_int (nomark _)) (dw_or1 (dt_not (dt_val (de_callB (ca_i tr_str) (by rfl) T.z_isinstance (by decide +kernel) (da_cons (de_ixc 0 (de_var 1)) (da_cons (de_ty (by rfl) T.z_str (by decide +kernel)) da_nil))))))))) (ds_one (ds_ret de_bl)) ds_nil) (ds_cons (ds_if (dt_w (dw_or (dt_not (dt_val (de_callB (ca_i tr_int) (by rfl) T.z_isinstance (by decide +kernel) (da_cons (de_ixc 1 (de_var 1)) (da_cons (de_ty (by rfl) T.z_int (by decide +kernel)) da_nil))))) (dw_or1 (dt_val (de_callB (ca_i tr_bool) (by rfl) T.z_isinstance (by decide +kernel) (da_cons (de_ixc 1 (de_var 1)) (da_cons (de_ty (by rfl) T.z_bool (by decide +kernel)) da_nil))))))) (ds_one (ds_ret de_bl)) ds_nil) (ds_cons (ds_asg (de_callB (ca_len) (by rfl) T.z_len (by decide +kernel) (da_cons (de_ixc 1 (de_var 0)) da_nil)) (dg_name (i := 2) sc_is_move.nd rfl (by first | exact Or.inl rfl | exact Or.inr rfl))) (ds_cons (ds_if (dt_cm (cm_eq hr.units) (de_ixc 0 (de_var 1)) de_str (nomark _)) (ds_one (ds_asg (de_callB (ca_len) (by rfl) T.z_len (by decide +kernel) (da_cons (de_ixc 0 (de_var 0)) da_nil)) (dg_name (i := 2) sc_is_move.nd rfl (by first | exact Or.inl rfl | exact Or.inr rfl)))) ds_nil) (ds_one (ds_ret (de_and (de_cm (cm_in hr.units) (de_ixc 0 (de_var 1)) (de_tup (da_cons de_str (da_cons de_str (da_cons de_str (da_cons de_str da_nil))))) (by rfl)) (de_one (de_chain (cm_le) (cm_lt) de_int (de_ixc 1 (de_var 1)) (de_var 2))))))))))
theorem fd_is_move {k : Nat} {p : PSp} (T : Tx K mg) (len : ∀ ds w Q, p ds w Q → ds.length = 2) (hp : ∀ (d0 d1 : PV) (w' : Wd) (Q : WQ), p [d0, d1] w' Q → rd_is_move { nx := fun _ w2 => Q .non w2, rt := Q } [some d0, some d1, none] w') : FD P w K mg base "is_move" (k + 1) p :=
  fd_of T.f_is_move sc_is_move (dv_is_move T) len fun ds w' Q h => match ds, len ds w' Q h, h with | [d0, d1], _, h => hp d0 d1 w' Q h
def rd_state_behind (q_with_true : PSp) : WS :=
  (wSeq2 (wAsg (wVar 1) (wgTup 2 (wgCons (wName 3) (wgCons (wName 4) wgNil)))) (wSeq2 (wAsg (wVar 2) (wgTup 2 (wgCons (wName 5) (wgCons (wName 6) wgNil)))) (wSeq2 (wIf (wTest (wOp (dEq) (wVar 5) (wC (.str "lay")))) (wRet (wIfE (wTest (wOp dIx (wVar 3) (wVar 6))) (wC .non) (wTup (wCons (wCall q_with_true (wCons (wVar 3) (wCons (wVar 6) wNil))) (wCons (wVar 4) wNil))))) wNext) (wSeq2 (wIf (wTest (wOp dIx (wVar 4) (wVar 6))) (wRet (wC .non)) wNext) (wSeq2 (wPar 7 8 (wCons (wIxC 0 (wOp dIx (wIxC 1 (wVar 0)) (wVar 6))) (wCons (wIxC 1 (wOp dIx (wIxC 1 (wVar 0)) (wVar 6))) wNil))) (wSeq2 (wAsg (wIxV [(.inr "forth", (wTup (wCons (wC (.bl true)) (wCons (wC (.bl false)) wNil)))), (.inr "back", (wTup (wCons (wC (.bl false)) (wCons (wC (.bl true)) wNil)))), (.inr "meet", (wTup (wCons (wC (.bl true)) (wCons (wC (.bl true)) wNil))))] (wVar 5)) (wName 9)) (wSeq2 (wIf (wTest (wOp (dNe) (wTup (wCons (wOp dIx (wVar 3) (wVar 7)) (wCons (wOp dIx (wVar 3) (wVar 8)) wNil))) (wVar 9))) (wRet (wC .non)) wNext) (wSeq2 (wIf (wTest (wOp (dEq) (wVar 5) (wC (.str "forth")))) (wAsg (wCall q_with_true (wCons (wVar 3) (wCons (wVar 8) wNil))) (wName 3)) (wIf (wTest (wOp (dEq) (wVar 5) (wC (.str "back")))) (wAsg (wCall q_with_true (wCons (wVar 3) (wCons (wVar 7) wNil))) (wName 3)) wNext)) (wRet (wTup (wCons (wVar 3) (wCons (wCall q_with_true (wCons (wVar 4) (wCons (wVar 6) wNil))) wNil))))))))))))
theorem dv_state_behind {q_with_true : PSp} {k_with_true k : Nat} (T : Tx K mg) (F_with_true : FD P w K mg base "with_true" k_with_true q_with_true) (l_with_true : k_with_true ≤ k) : ∀ (f : Addr) (cdv : Value) (A : Around) (outer : List Env) (s : Shared) (H : Hp) (E : XK), Room k (A.deeper (PyProof.Rows.envOfC "state_behind" (defScope s_state_behind) s.heap.objs.size f cdv)) →
    DSs (cxOf CX0 P w K mg base n_state_behind "state_behind" (defScope s_state_behind) f cdv A outer s H E).nox (defBody s_state_behind) (rd_state_behind q_with_true) := fun f cdv A outer s H E hr =>
  (ds_cons (ds_asg (de_var 1) (dg_tup rfl (dgs_cons (dg_name (i := 3) sc_state_behind.nd rfl (by first | exact Or.inl rfl | exact Or.inr rfl)) (dgs_cons (dg_name (i := 4) sc_state_behind.nd rfl (by first | exact Or.inl rfl | exact Or.inr rfl)) dgs_nil)))) (ds_cons (ds_asg (de_var 2) (dg_tup rfl (dgs_cons (dg_name (i := 5) sc_state_behind.nd rfl (by first | exact Or.inl rfl | exact Or.inr rfl)) (dgs_cons (dg_name (i := 6) sc_state_behind.nd rfl (by first | exact Or.inl rfl | exact Or.inr rfl)) dgs_nil)))) (ds_cons (ds_if (dt_cm (cm_eq hr.units) (de_var 5) de_str (nomark _)) (ds_one (ds_ret (de_ifE (dt_val (de_ix (de_var 3) (de_var 6))) de_non (de_tup (da_cons (de_call F_with_true (hr.mono l_with_true) (by rfl) (da_cons (de_var 3) (da_cons (de_var 6) da_nil))) (da_cons (de_var 4) da_nil)))))) ds_nil) (ds_cons (ds_if (dt_val (de_ix (de_var 4) (de_var 6))) (ds_one (ds_ret de_non)) ds_nil) (ds_cons (ds_par (i := 7) (j := 8) rfl sc_state_behind.nd rfl rfl (by decide) rfl rfl (da_cons (de_ixc 0 (de_ix (de_ixc 1 (de_var 0)) (de_var 6))) (da_cons (de_ixc 1 (de_ix (de_ixc 1 (de_var 0)) (de_var 6))) da_nil))) (ds_cons (ds_asg (de_ixV hr.units (DisV.cons (kk := .inr "forth") pe_str (de_tup (da_cons de_bl (da_cons de_bl da_nil))) (DisV.cons (kk := .inr "back") pe_str (de_tup (da_cons de_bl (da_cons de_bl da_nil))) (DisV.cons (kk := .inr "meet") pe_str (de_tup (da_cons de_bl (da_cons de_bl da_nil))) DisV.nil))) (de_var 5) (fun _ _ => rfl)) (dg_name (i := 9) sc_state_behind.nd rfl (by first | exact Or.inl rfl | exact Or.inr rfl))) (ds_cons (ds_if (dt_cm (cm_ne hr.units) (de_tup (da_cons (de_ix (de_var 3) (de_var 7)) (da_cons (de_ix (de_var 3) (de_var 8)) da_nil))) (de_var 9) (nomark _)) (ds_one (ds_ret de_non)) ds_nil) (ds_cons (ds_if (dt_cm (cm_eq hr.units) (de_var 5) de_str (nomark _)) (ds_one (ds_asg (de_call F_with_true (hr.mono l_with_true) (by rfl) (da_cons (de_var 3) (da_cons (de_var 8) da_nil))) (dg_name (i := 3) sc_state_behind.nd rfl (by first | exact Or.inl rfl | exact Or.inr rfl)))) (ds_one (ds_if (dt_cm (cm_eq hr.units) (de_var 5) de_str (nomark _)) (ds_one (ds_asg (de_call F_with_true (hr.mono l_with_true) (by rfl) (da_cons (de_var 3) (da_cons (de_var 7) da_nil))) (dg_name (i := 3) sc_state_behind.nd rfl (by first | exact Or.inl rfl | exact Or.inr rfl)))) ds_nil))) (ds_one (ds_ret (de_tup (da_cons (de_var 3) (da_cons (de_call F_with_true (hr.mono l_with_true) (by rfl) (da_cons (de_var 4) (da_cons (de_var 6) da_nil))) da_nil)))))))))))))
theorem fd_state_behind {q_with_true : PSp} {k_with_true k : Nat} {p : PSp} (T : Tx K mg) (F_with_true : FD P w K mg base "with_true" k_with_true q_with_true) (l_with_true : k_with_true ≤ k) (len : ∀ ds w Q, p ds w Q → ds.length = 3) (hp : ∀ (d0 d1 d2 : PV) (w' : Wd) (Q : WQ), p [d0, d1, d2] w' Q → rd_state_behind q_with_true { nx := fun _ w2 => Q .non w2, rt := Q } [some d0, some d1, some d2, none, none, none, none, none, none, none] w') : FD P w K mg base "state_behind" (k + 1) p :=
  fd_of T.f_state_behind sc_state_behind (dv_state_behind T F_with_true l_with_true) len fun ds w' Q h => match ds, len ds w' Q h, h with | [d0, d1, d2], _, h => hp d0 d1 d2 w' Q h
def rd_with_true : WS :=
  (wRet (wOp dAdd (wOp dAdd (wSl (wVar 0) wNo (wPart (wVar 1))) (wTup (wCons (wC (.bl true)) wNil))) (wSl (wVar 0) (wPart (wOp dAdd (wVar 1) (wC (.int 1)))) wNo)))
theorem dv_with_true {k : Nat} (T : Tx K mg) : ∀ (f : Addr) (cdv : Value) (A : Around) (outer : List Env) (s : Shared) (H : Hp) (E : XK), Room k (A.deeper (PyProof.Rows.envOfC "with_true" (defScope s_with_true) s.heap.objs.size f cdv)) →
    DSs (cxOf CX0 P w K mg base n_with_true "with_true" (defScope s_with_true) f cdv A outer s H E).nox (defBody s_with_true) (rd_with_true) := fun f cdv A outer s H E hr =>
  (ds_one (ds_ret (de_add (de_add (de_slice (de_var 0) do_none (do_some (de_var 1))) (de_tup (da_cons de_bl da_nil))) (de_slice (de_var 0) (do_some (de_add (de_var 1) de_int)) do_none))))
theorem fd_with_true {k : Nat} {p : PSp} (T : Tx K mg) (len : ∀ ds w Q, p ds w Q → ds.length = 2) (hp : ∀ (d0 d1 : PV) (w' : Wd) (Q : WQ), p [d0, d1] w' Q → rd_with_true { nx := fun _ w2 => Q .non w2, rt := Q } [some d0, some d1] w') : FD P w K mg base "with_true" (k + 1) p :=
  fd_of T.f_with_true sc_with_true (dv_with_true T) len fun ds w' Q h => match ds, len ds w' Q h, h with | [d0, d1], _, h => hp d0 d1 w' Q h
def rd_first_state : WS :=
  (wRet (wTup (wCons (wOp dMulT (wTup (wCons (wC (.bl false)) wNil)) (wCB cLen (wCons (wIxC 0 (wVar 0)) wNil))) (wCons (wOp dMulT (wTup (wCons (wC (.bl false)) wNil)) (wCB cLen (wCons (wIxC 1 (wVar 0)) wNil))) wNil))))
theorem dv_first_state {k : Nat} (T : Tx K mg) : ∀ (f : Addr) (cdv : Value) (A : Around) (outer : List Env) (s : Shared) (H : Hp) (E : XK), Room k (A.deeper (PyProof.Rows.envOfC "first_state" (defScope s_first_state) s.heap.objs.size f cdv)) →
    DSs (cxOf CX0 P w K mg base n_first_state "first_state" (defScope s_first_state) f cdv A outer s H E).nox (defBody s_first_state) (rd_first_state) := fun f cdv A outer s H E hr =>
  (ds_one (ds_ret (de_tup (da_cons (de_mulT (de_tup (da_cons de_bl da_nil)) (de_callB (ca_len) (by rfl) T.z_len (by decide +kernel) (da_cons (de_ixc 0 (de_var 0)) da_nil))) (da_cons (de_mulT (de_tup (da_cons de_bl da_nil)) (de_callB (ca_len) (by rfl) T.z_len (by decide +kernel) (da_cons (de_ixc 1 (de_var 0)) da_nil))) da_nil)))))
theorem fd_first_state {k : Nat} {p : PSp} (T : Tx K mg) (len : ∀ ds w Q, p ds w Q → ds.length = 1) (hp : ∀ (d0 : PV) (w' : Wd) (Q : WQ), p [d0] w' Q → rd_first_state { nx := fun _ w2 => Q .non w2, rt := Q } [some d0] w') : FD P w K mg base "first_state" (k + 1) p :=
  fd_of T.f_first_state sc_first_state (dv_first_state T) len fun ds w' Q h => match ds, len ds w' Q h, h with | [d0], _, h => hp d0 w' Q h
def rd_is_done : WS :=
  (wRet (wAndV (wCB cAllX (wCons (wIxC 0 (wVar 0)) wNil)) (wCB cAllX (wCons (wIxC 1 (wVar 0)) wNil))))
theorem dv_is_done {k : Nat} (T : Tx K mg) : ∀ (f : Addr) (cdv : Value) (A : Around) (outer : List Env) (s : Shared) (H : Hp) (E : XK), Room k (A.deeper (PyProof.Rows.envOfC "is_done" (defScope s_is_done) s.heap.objs.size f cdv)) →
    DSs (cxOf CX0 P w K mg base n_is_done "is_done" (defScope s_is_done) f cdv A outer s H E).nox (defBody s_is_done) (rd_is_done) := fun f cdv A outer s H E hr =>
  (ds_one (ds_ret (de_and (de_callB (ca_allX rfl) (by rfl) T.z_all (by decide +kernel) (da_cons (de_ixc 0 (de_var 0)) da_nil)) (de_one (de_callB (ca_allX rfl) (by rfl) T.z_all (by decide +kernel) (da_cons (de_ixc 1 (de_var 0)) da_nil))))))
theorem fd_is_done {k : Nat} {p : PSp} (T : Tx K mg) (len : ∀ ds w Q, p ds w Q → ds.length = 1) (hp : ∀ (d0 : PV) (w' : Wd) (Q : WQ), p [d0] w' Q → rd_is_done { nx := fun _ w2 => Q .non w2, rt := Q } [some d0] w') : FD P w K mg base "is_done" (k + 1) p :=
  fd_of T.f_is_done sc_is_done (dv_is_done T) len fun ds w' Q h => match ds, len ds w' Q h, h with | [d0], _, h => hp d0 w' Q h
def rd_is_plan (q_is_done : PSp) (q_state_behind : PSp) (q_is_move : PSp) (q_first_state : PSp) : WS :=
  (wSeq2 (wIf (wNotT (wTest (wCB (cI2 "tuple" "list" isTupP isLstP) (wCons (wVar 1) (wCons (wTup (wCons (wC (.ty "tuple")) (wCons (wC (.ty "list")) wNil))) wNil))))) (wRet (wC (.bl false))) wNext) (wSeq2 (wAsg (wCall q_first_state (wCons (wVar 0) wNil)) (wName 2)) (wSeq2 (wFor (wSeq (wVar 1)) (wName 3) (wSeq2 (wIf (wNotT (wTest (wCall q_is_move (wCons (wVar 0) (wCons (wVar 3) wNil))))) (wRet (wC (.bl false))) wNext) (wSeq2 (wAsg (wCall q_state_behind (wCons (wVar 0) (wCons (wVar 2) (wCons (wVar 3) wNil)))) (wName 2)) (wIf (wTest (wOp (dIs false) (wVar 2) (wC .non))) (wRet (wC (.bl false))) wNext)))) (wRet (wCall q_is_done (wCons (wVar 2) wNil))))))
theorem dv_is_plan {q_is_done q_state_behind q_is_move q_first_state : PSp} {k_is_done k_state_behind k_is_move k_first_state k : Nat} (T : Tx K mg) (F_is_done : FD P w K mg base "is_done" k_is_done q_is_done) (l_is_done : k_is_done ≤ k) (F_state_behind : FD P w K mg base "state_behind" k_state_behind q_state_behind) (l_state_behind : k_state_behind ≤ k) (F_is_move : FD P w K mg base "is_move" k_is_move q_is_move) (l_is_move : k_is_move ≤ k) (F_first_state : FD P w K mg base "first_state" k_first_state q_first_state) (l_first_state : k_first_state ≤ k) : ∀ (f : Addr) (cdv : Value) (A : Around) (outer : List Env) (s : Shared) (H : Hp) (E : XK), Room k (A.deeper (PyProof.Rows.envOfC "is_plan" (defScope s_is_plan) s.heap.objs.size f cdv)) →
    DSs (cxOf CX0 P w K mg base n_is_plan "is_plan" (defScope s_is_plan) f cdv A outer s H E).nox (defBody s_is_plan) (rd_is_plan q_is_done q_state_behind q_is_move q_first_state) := fun f cdv A outer s H E hr =>
  (ds_cons (ds_if (dt_not (dt_val (de_callB (ca_i2 tr_tup tr_lst) (by rfl) T.z_isinstance (by decide +kernel) (da_cons (de_var 1) (da_cons (de_tup (da_cons (de_ty (by rfl) T.z_tuple (by decide +kernel)) (da_cons (de_ty (by rfl) T.z_list (by decide +kernel)) da_nil))) da_nil))))) (ds_one (ds_ret de_bl)) ds_nil) (ds_cons (ds_asg (de_call F_first_state (hr.mono l_first_state) (by rfl) (da_cons (de_var 0) da_nil)) (dg_name (i := 2) sc_is_plan.nd rfl (by first | exact Or.inl rfl | exact Or.inr rfl))) (ds_cons (ds_for PassesOwn.never rfl (di_val (de_var 1)) (dg_name (i := 3) sc_is_plan.nd rfl (by first | exact Or.inl rfl | exact Or.inr rfl)) (ds_cons (ds_if (dt_not (dt_val (de_call F_is_move (hr.mono l_is_move) (by rfl) (da_cons (de_var 0) (da_cons (de_var 3) da_nil))))) (ds_one (ds_ret de_bl)) ds_nil) (ds_cons (ds_asg (de_call F_state_behind (hr.mono l_state_behind) (by rfl) (da_cons (de_var 0) (da_cons (de_var 2) (da_cons (de_var 3) da_nil)))) (dg_name (i := 2) sc_is_plan.nd rfl (by first | exact Or.inl rfl | exact Or.inr rfl))) (ds_one (ds_if (dt_cm (cm_is) (de_var 2) de_non (nomark _)) (ds_one (ds_ret de_bl)) ds_nil))))) (ds_one (ds_ret (de_call F_is_done (hr.mono l_is_done) (by rfl) (da_cons (de_var 2) da_nil)))))))
theorem fd_is_plan {q_is_done q_state_behind q_is_move q_first_state : PSp} {k_is_done k_state_behind k_is_move k_first_state k : Nat} {p : PSp} (T : Tx K mg) (F_is_done : FD P w K mg base "is_done" k_is_done q_is_done) (l_is_done : k_is_done ≤ k) (F_state_behind : FD P w K mg base "state_behind" k_state_behind q_state_behind) (l_state_behind : k_state_behind ≤ k) (F_is_move : FD P w K mg base "is_move" k_is_move q_is_move) (l_is_move : k_is_move ≤ k) (F_first_state : FD P w K mg base "first_state" k_first_state q_first_state) (l_first_state : k_first_state ≤ k) (len : ∀ ds w Q, p ds w Q → ds.length = 2) (hp : ∀ (d0 d1 : PV) (w' : Wd) (Q : WQ), p [d0, d1] w' Q → rd_is_plan q_is_done q_state_behind q_is_move q_first_state { nx := fun _ w2 => Q .non w2, rt := Q } [some d0, some d1, none, none] w') : FD P w K mg base "is_plan" (k + 1) p :=
  fd_of T.f_is_plan sc_is_plan (dv_is_plan T F_is_done l_is_done F_state_behind l_state_behind F_is_move l_is_move F_first_state l_first_state) len fun ds w' Q h => match ds, len ds w' Q h, h with | [d0, d1], _, h => hp d0 d1 w' Q h
def rd__law_box : WS :=
  (wSeq2 (wAsg (wC (.int 0)) (wName 2)) (wSeq2 (wIf (wTest (wOp (dLt) (wVar 1) (wCB cLen (wCons (wVar 0) wNil)))) (wAsg (wOp dIx (wVar 0) (wVar 1)) (wName 2)) wNext) (wRet (wMLst (wCons (wOp dMul (wCB cAbs (wCons (wVar 2) wNil)) (wCB cInt (wCons (wOp (dGe) (wCB cAbs (wCons (wVar 2) wNil)) (wOp dPow (wC (.int 10)) (wC (.int 18)))) wNil))) (wCons (wOp dMod (wVar 2) (wC (.int 2305843009213693951))) (wCons (wOp dMul (wC (.int 7)) (wVar 1)) wNil)))))))
theorem dv__law_box {k : Nat} (T : Tx K mg) : ∀ (f : Addr) (cdv : Value) (A : Around) (outer : List Env) (s : Shared) (H : Hp) (E : XK), Room k (A.deeper (PyProof.Rows.envOfC "_law_box" (defScope s__law_box) s.heap.objs.size f cdv)) →
    DSs (cxOf CX0 P w K mg base n__law_box "_law_box" (defScope s__law_box) f cdv A outer s H E).nox (defBody s__law_box) (rd__law_box) := fun f cdv A outer s H E hr =>
  (ds_cons (ds_asg de_int (dg_name (i := 2) sc__law_box.nd rfl (by first | exact Or.inl rfl | exact Or.inr rfl))) (ds_cons (ds_if (dt_cm (cm_lt) (de_var 1) (de_callB (ca_len) (by rfl) T.z_len (by decide +kernel) (da_cons (de_var 0) da_nil)) (nomark _)) (ds_one (ds_asg (de_ix (de_var 0) (de_var 1)) (dg_name (i := 2) sc__law_box.nd rfl (by first | exact Or.inl rfl | exact Or.inr rfl)))) ds_nil) (ds_one (ds_ret (de_mlst (da_cons (de_mul (de_callB (ca_abs) (by rfl) T.z_abs (by decide +kernel) (da_cons (de_var 2) da_nil)) (de_callTy (ca_int) (by rfl) T.z_int (by decide +kernel) (da_cons (de_cm (cm_ge) (de_callB (ca_abs) (by rfl) T.z_abs (by decide +kernel) (da_cons (de_var 2) da_nil)) (de_pow de_int de_int) (nomark _)) da_nil))) (da_cons (de_mod (de_var 2) de_int) (da_cons (de_mul de_int (de_var 1)) da_nil))))))))
theorem fd__law_box {k : Nat} {p : PSp} (T : Tx K mg) (len : ∀ ds w Q, p ds w Q → ds.length = 2) (hp : ∀ (d0 d1 : PV) (w' : Wd) (Q : WQ), p [d0, d1] w' Q → rd__law_box { nx := fun _ w2 => Q .non w2, rt := Q } [some d0, some d1, none] w') : FD P w K mg base "_law_box" (k + 1) p :=
  fd_of T.f__law_box sc__law_box (dv__law_box T) len fun ds w' Q h => match ds, len ds w' Q h, h with | [d0, d1], _, h => hp d0 d1 w' Q h
def rd__law_take : WS :=
  (wSeq2 (wIf (wTest (wOp (dGt) (wIxC 0 (wVar 0)) (wC (.int 0)))) (wSeq2 (wAsg (wOp dMod (wIxC 0 (wVar 0)) (wVar 1)) (wName 2)) (wSeq2 (wAsg (wOp dFdiv (wIxC 0 (wVar 0)) (wVar 1)) (wgSubC 0 (wVar 0))) (wRet (wVar 2)))) wNext) (wSeq2 (wAsg (wOp dAdd (wIxC 2 (wVar 0)) (wC (.int 1))) (wgSubC 2 (wVar 0))) (wSeq2 (wAsg (wOp dMod (wOp dMul (wOp dAdd (wIxC 1 (wVar 0)) (wC (.int 3))) (wOp dAdd (wC (.int 48271)) (wOp dMul (wIxC 2 (wVar 0)) (wIxC 2 (wVar 0))))) (wC (.int 2305843009213693921))) (wName 3)) (wSeq2 (wAsg (wOp dMod (wOp dMul (wVar 3) (wOp dAdd (wOp dAdd (wOp dMod (wVar 3) (wC (.int 1000003))) (wOp dMul (wIxC 2 (wVar 0)) (wC (.int 69621)))) (wC (.int 11)))) (wC (.int 2305843009213693907))) (wName 3)) (wRet (wOp dMod (wOp dAdd (wOp dFdiv (wOp dMul (wVar 3) (wVar 3)) (wC (.int 97))) (wOp dFdiv (wVar 3) (wC (.int 31)))) (wVar 1)))))))
theorem dv__law_take {k : Nat} (T : Tx K mg) : ∀ (f : Addr) (cdv : Value) (A : Around) (outer : List Env) (s : Shared) (H : Hp) (E : XK), Room k (A.deeper (PyProof.Rows.envOfC "_law_take" (defScope s__law_take) s.heap.objs.size f cdv)) →
    DSs (cxOf CX0 P w K mg base n__law_take "_law_take" (defScope s__law_take) f cdv A outer s H E).nox (defBody s__law_take) (rd__law_take) := fun f cdv A outer s H E hr =>
  (ds_cons (ds_if (dt_cm (cm_gt) (de_ixc 0 (de_var 0)) de_int (nomark _)) (ds_cons (ds_asg (de_mod (de_ixc 0 (de_var 0)) (de_var 1)) (dg_name (i := 2) sc__law_take.nd rfl (by first | exact Or.inl rfl | exact Or.inr rfl))) (ds_cons (ds_asg (de_fdiv (de_ixc 0 (de_var 0)) (de_var 1)) (dg_subc 0 (de_var 0))) (ds_one (ds_ret (de_var 2))))) ds_nil) (ds_cons (ds_asg (de_add (de_ixc 2 (de_var 0)) de_int) (dg_subc 2 (de_var 0))) (ds_cons (ds_asg (de_mod (de_mul (de_add (de_ixc 1 (de_var 0)) de_int) (de_add de_int (de_mul (de_ixc 2 (de_var 0)) (de_ixc 2 (de_var 0))))) de_int) (dg_name (i := 3) sc__law_take.nd rfl (by first | exact Or.inl rfl | exact Or.inr rfl))) (ds_cons (ds_asg (de_mod (de_mul (de_var 3) (de_add (de_add (de_mod (de_var 3) de_int) (de_mul (de_ixc 2 (de_var 0)) de_int)) de_int)) de_int) (dg_name (i := 3) sc__law_take.nd rfl (by first | exact Or.inl rfl | exact Or.inr rfl))) (ds_one (ds_ret (de_mod (de_add (de_fdiv (de_mul (de_var 3) (de_var 3)) de_int) (de_fdiv (de_var 3) de_int)) (de_var 1))))))))
theorem fd__law_take {k : Nat} {p : PSp} (T : Tx K mg) (len : ∀ ds w Q, p ds w Q → ds.length = 2) (hp : ∀ (d0 d1 : PV) (w' : Wd) (Q : WQ), p [d0, d1] w' Q → rd__law_take { nx := fun _ w2 => Q .non w2, rt := Q } [some d0, some d1, none, none] w') : FD P w K mg base "_law_take" (k + 1) p :=
  fd_of T.f__law_take sc__law_take (dv__law_take T) len fun ds w' Q h => match ds, len ds w' Q h, h with | [d0, d1], _, h => hp d0 d1 w' Q h
def rd__law_pattern (q__law_take : PSp) : WS :=
  (wSeq2 (wAsg (wOp dAdd (wC (.int 1)) (wCall q__law_take (wCons (wVar 0) (wCons (wC (.int 4)) wNil)))) (wName 1)) (wSeq2 (wIf (wTest (wOp (dEq) (wCall q__law_take (wCons (wVar 0) (wCons (wC (.int 8)) wNil))) (wC (.int 0)))) (wAsg (wC (.int 5)) (wName 1)) wNext) (wSeq2 (wAsg (wOp dMulT (wTup (wCons (wTup (wCons (wC .non) (wCons (wTup (wCons (wC (.str "any")) wNil)) wNil))) wNil)) (wVar 1)) (wName 2)) (wSeq2 (wAsg (wMLst wNil) (wName 3)) (wSeq2 (wFor (wRng1 (wCons (wCall q__law_take (wCons (wVar 0) (wCons (wC (.int 6)) wNil))) wNil)) (wName 4) (wSeq2 (wAsg (wTup (wCons (wC (.str "step")) (wCons (wOp dIx (wLst (wCons (wC (.str "knows")) (wCons (wC .non) wNil))) (wCall q__law_take (wCons (wVar 0) (wCons (wC (.int 2)) wNil)))) (wCons (wC (.str "forth")) wNil)))) (wName 5)) (wDrop (wBM isM mAppend (wVar 3) (wCons (wTup (wCons (wCall q__law_take (wCons (wVar 0) (wCons (wVar 1) wNil))) (wCons (wCall q__law_take (wCons (wVar 0) (wCons (wVar 1) wNil))) (wCons (wOp dIx (wLst (wCons (wC (.str "any")) (wCons (wC (.str "all")) wNil))) (wCall q__law_take (wCons (wVar 0) (wCons (wC (.int 2)) wNil)))) (wCons (wVar 5) wNil))))) wNil))))) (wRet (wFgt 3 (wTup (wCons (wVar 2) (wCons (wCB cTuple (wCons (wVar 3) wNil)) (wCons (wTup wNil) wNil)))))))))))
theorem dv__law_pattern {q__law_take : PSp} {k__law_take k : Nat} (T : Tx K mg) (F__law_take : FD P w K mg base "_law_take" k__law_take q__law_take) (l__law_take : k__law_take ≤ k) : ∀ (f : Addr) (cdv : Value) (A : Around) (outer : List Env) (s : Shared) (H : Hp) (E : XK), Room k (A.deeper (PyProof.Rows.envOfC "_law_pattern" (defScope s__law_pattern) s.heap.objs.size f cdv)) →
    DSs (cxOf CX0 P w K mg base n__law_pattern "_law_pattern" (defScope s__law_pattern) f cdv A outer s H E).nox (defBody s__law_pattern) (rd__law_pattern q__law_take) := fun f cdv A outer s H E hr =>
  (ds_cons (ds_asg (de_add de_int (de_call F__law_take (hr.mono l__law_take) (by rfl) (da_cons (de_var 0) (da_cons de_int da_nil)))) (dg_name (i := 1) sc__law_pattern.nd rfl (by first | exact Or.inl rfl | exact Or.inr rfl))) (ds_cons (ds_if (dt_cm (cm_eq hr.units) (de_call F__law_take (hr.mono l__law_take) (by rfl) (da_cons (de_var 0) (da_cons de_int da_nil))) de_int (nomark _)) (ds_one (ds_asg de_int (dg_name (i := 1) sc__law_pattern.nd rfl (by first | exact Or.inl rfl | exact Or.inr rfl)))) ds_nil) (ds_cons (ds_asg (de_mulT (de_tup (da_cons (de_tup (da_cons de_non (da_cons (de_tup (da_cons de_str da_nil)) da_nil))) da_nil)) (de_var 1)) (dg_name (i := 2) sc__law_pattern.nd rfl (by first | exact Or.inl rfl | exact Or.inr rfl))) (ds_cons (ds_asg (de_mlst da_nil) (dg_name (i := 3) sc__law_pattern.nd rfl (by first | exact Or.inl rfl | exact Or.inr rfl))) (ds_cons (ds_for PassesOwn.never rfl (di_range1 (by rfl) T.z_range (da_cons (de_call F__law_take (hr.mono l__law_take) (by rfl) (da_cons (de_var 0) (da_cons de_int da_nil))) da_nil)) (dg_name (i := 4) sc__law_pattern.nd rfl (by first | exact Or.inl rfl | exact Or.inr rfl)) (ds_cons (ds_asg (de_tup (da_cons de_str (da_cons (de_ix (de_lst (da_cons de_str (da_cons de_non da_nil))) (de_call F__law_take (hr.mono l__law_take) (by rfl) (da_cons (de_var 0) (da_cons de_int da_nil)))) (da_cons de_str da_nil)))) (dg_name (i := 5) sc__law_pattern.nd rfl (by first | exact Or.inl rfl | exact Or.inr rfl))) (ds_one (ds_expr (de_m me_append (de_var 3) (da_cons (de_tup (da_cons (de_call F__law_take (hr.mono l__law_take) (by rfl) (da_cons (de_var 0) (da_cons (de_var 1) da_nil))) (da_cons (de_call F__law_take (hr.mono l__law_take) (by rfl) (da_cons (de_var 0) (da_cons (de_var 1) da_nil))) (da_cons (de_ix (de_lst (da_cons de_str (da_cons de_str da_nil))) (de_call F__law_take (hr.mono l__law_take) (by rfl) (da_cons (de_var 0) (da_cons de_int da_nil)))) (da_cons (de_var 5) da_nil))))) da_nil)))))) (ds_one (ds_ret (de_fgt 3 (de_tup (da_cons (de_var 2) (da_cons (de_callTy (ca_tuple) (by rfl) T.z_tuple (by decide +kernel) (da_cons (de_var 3) da_nil)) (da_cons (de_tup da_nil) da_nil))))))))))))
theorem fd__law_pattern {q__law_take : PSp} {k__law_take k : Nat} {p : PSp} (T : Tx K mg) (F__law_take : FD P w K mg base "_law_take" k__law_take q__law_take) (l__law_take : k__law_take ≤ k) (len : ∀ ds w Q, p ds w Q → ds.length = 1) (hp : ∀ (d0 : PV) (w' : Wd) (Q : WQ), p [d0] w' Q → rd__law_pattern q__law_take { nx := fun _ w2 => Q .non w2, rt := Q } [some d0, none, none, none, none, none] w') : FD P w K mg base "_law_pattern" (k + 1) p :=
  fd_of T.f__law_pattern sc__law_pattern (dv__law_pattern T F__law_take l__law_take) len fun ds w' Q h => match ds, len ds w' Q h, h with | [d0], _, h => hp d0 w' Q h
def rd__law_moves : WS :=
  (wSeq2 (wAsg (wMLst wNil) (wName 3)) (wSeq2 (wFor (wSeq (wTup (wCons (wTup (wCons (wC (.str "back")) (wCons (wTup (wCons (wC (.int 0)) (wCons (wC (.int 1)) wNil))) wNil))) (wCons (wTup (wCons (wC (.str "forth")) (wCons (wTup (wCons (wC (.int 1)) (wCons (wC (.int 0)) wNil))) wNil))) wNil)))) (wgTup 2 (wgCons (wName 4) (wgCons (wName 5) wgNil))) (wFor (wEnumerate (wCons (wIxC 1 (wVar 0)) wNil)) (wgTup 2 (wgCons (wName 6) (wgCons (wName 7) wgNil))) (wIf (wAndT (wTest (wOp (dIn true) (wVar 6) (wVar 2))) (wTest (wOp (dEq) (wTup (wCons (wCB cInt (wCons (wOp (dIn false) (wIxC 0 (wVar 7)) (wVar 1)) wNil)) (wCons (wCB cInt (wCons (wOp (dIn false) (wIxC 1 (wVar 7)) (wVar 1)) wNil)) wNil))) (wVar 5)))) (wDrop (wBM isM mAppend (wVar 3) (wCons (wTup (wCons (wVar 4) (wCons (wVar 6) wNil))) wNil))) wNext))) (wSeq2 (wDrop (wBM isM mExtend (wVar 3) (wCons (wLc (wRng1 (wCons (wCB cLen (wCons (wIxC 0 (wVar 0)) wNil)) wNil)) (wName 8) (wTest (wOp (dIn true) (wVar 8) (wVar 1))) (wTup (wCons (wC (.str "lay")) (wCons (wVar 8) wNil))) [8]) wNil))) (wSeq2 (wFor (wEnumerate (wCons (wIxC 1 (wVar 0)) wNil)) (wgTup 2 (wgCons (wName 6) (wgCons (wName 7) wgNil))) (wIf (wAndT (wTest (wOp (dIn true) (wVar 6) (wVar 2))) (wAndT (wTest (wOp (dIn false) (wIxC 0 (wVar 7)) (wVar 1))) (wTest (wOp (dIn false) (wIxC 1 (wVar 7)) (wVar 1))))) (wDrop (wBM isM mAppend (wVar 3) (wCons (wTup (wCons (wC (.str "meet")) (wCons (wVar 6) wNil))) wNil))) wNext)) (wRet (wFrz (wVar 3)))))))
theorem dv__law_moves {k : Nat} (T : Tx K mg) : ∀ (f : Addr) (cdv : Value) (A : Around) (outer : List Env) (s : Shared) (H : Hp) (E : XK), Room k (A.deeper (PyProof.Rows.envOfC "_law_moves" (defScope s__law_moves) s.heap.objs.size f cdv)) →
    DSs (cxOf CX0 P w K mg base n__law_moves "_law_moves" (defScope s__law_moves) f cdv A outer s H E).nox (defBody s__law_moves) (rd__law_moves) := fun f cdv A outer s H E hr =>
  (ds_cons (ds_asg (de_mlst da_nil) (dg_name (i := 3) sc__law_moves.nd rfl (by first | exact Or.inl rfl | exact Or.inr rfl))) (ds_cons (ds_for PassesOwn.never rfl (di_val (de_tup (da_cons (de_tup (da_cons de_str (da_cons (de_tup (da_cons de_int (da_cons de_int da_nil))) da_nil))) (da_cons (de_tup (da_cons de_str (da_cons (de_tup (da_cons de_int (da_cons de_int da_nil))) da_nil))) da_nil)))) (dg_tup rfl (dgs_cons (dg_name (i := 4) sc__law_moves.nd rfl (by first | exact Or.inl rfl | exact Or.inr rfl)) (dgs_cons (dg_name (i := 5) sc__law_moves.nd rfl (by first | exact Or.inl rfl | exact Or.inr rfl)) dgs_nil))) (ds_one (ds_for PassesOwn.never rfl (di_enumerate (by rfl) T.z_enumerate (da_cons (de_ixc 1 (de_var 0)) da_nil)) (dg_tup rfl (dgs_cons (dg_name (i := 6) sc__law_moves.nd rfl (by first | exact Or.inl rfl | exact Or.inr rfl)) (dgs_cons (dg_name (i := 7) sc__law_moves.nd rfl (by first | exact Or.inl rfl | exact Or.inr rfl)) dgs_nil))) (ds_one (ds_if (dt_w (dw_and (dt_cm (cm_notin hr.units) (de_var 6) (de_var 2) (by rfl)) (dw_and1 (dt_cm (cm_eq hr.units) (de_tup (da_cons (de_callTy (ca_int) (by rfl) T.z_int (by decide +kernel) (da_cons (de_cm (cm_in hr.units) (de_ixc 0 (de_var 7)) (de_var 1) (by rfl)) da_nil)) (da_cons (de_callTy (ca_int) (by rfl) T.z_int (by decide +kernel) (da_cons (de_cm (cm_in hr.units) (de_ixc 1 (de_var 7)) (de_var 1) (by rfl)) da_nil)) da_nil))) (de_var 5) (nomark _))))) (ds_one (ds_expr (de_m me_append (de_var 3) (da_cons (de_tup (da_cons (de_var 4) (da_cons (de_var 6) da_nil))) da_nil)))) ds_nil))))) (ds_cons (ds_expr (de_m me_extend (de_var 3) (da_cons (de_lc (own := [("_law_i", 8)]) rfl sc__law_moves.nd (di_range1 (by rfl) T.z_range (da_cons (de_callB (ca_len) (by rfl) T.z_len (by decide +kernel) (da_cons (de_ixc 0 (de_var 0)) da_nil)) da_nil)) (blkOk_by (N := n__law_moves) (sc := defScope s__law_moves) (by decide +kernel)) (fun _ _ _ _ _ => (dgw_name (i := 8) sc__law_moves.nd rfl (by first | exact Or.inl rfl | exact Or.inr rfl) (by decide))) (fun _ _ _ _ _ => (dts_one (dt_cm (cm_notin hr.units) (de_var 8) (de_var 1) (by rfl)))) (fun _ _ _ _ _ => (de_tup (da_cons de_str (da_cons (de_var 8) da_nil))))) da_nil))) (ds_cons (ds_for PassesOwn.never rfl (di_enumerate (by rfl) T.z_enumerate (da_cons (de_ixc 1 (de_var 0)) da_nil)) (dg_tup rfl (dgs_cons (dg_name (i := 6) sc__law_moves.nd rfl (by first | exact Or.inl rfl | exact Or.inr rfl)) (dgs_cons (dg_name (i := 7) sc__law_moves.nd rfl (by first | exact Or.inl rfl | exact Or.inr rfl)) dgs_nil))) (ds_one (ds_if (dt_w (dw_and (dt_cm (cm_notin hr.units) (de_var 6) (de_var 2) (by rfl)) (dw_and (dt_cm (cm_in hr.units) (de_ixc 0 (de_var 7)) (de_var 1) (by rfl)) (dw_and1 (dt_cm (cm_in hr.units) (de_ixc 1 (de_var 7)) (de_var 1) (by rfl)))))) (ds_one (ds_expr (de_m me_append (de_var 3) (da_cons (de_tup (da_cons de_str (da_cons (de_var 6) da_nil))) da_nil)))) ds_nil))) (ds_one (ds_ret (de_frz (de_var 3))))))))
theorem fd__law_moves {k : Nat} {p : PSp} (T : Tx K mg) (len : ∀ ds w Q, p ds w Q → ds.length = 3) (hp : ∀ (d0 d1 d2 : PV) (w' : Wd) (Q : WQ), p [d0, d1, d2] w' Q → rd__law_moves { nx := fun _ w2 => Q .non w2, rt := Q } [some d0, some d1, some d2, none, none, none, none, none, none] w') : FD P w K mg base "_law_moves" (k + 1) p :=
  fd_of T.f__law_moves sc__law_moves (dv__law_moves T) len fun ds w' Q h => match ds, len ds w' Q h, h with | [d0, d1, d2], _, h => hp d0 d1 d2 w' Q h
def rd__law_behind : WS :=
  (wSeq2 (wAsg (wVar 3) (wgTup 2 (wgCons (wName 4) (wgCons (wName 5) wgNil)))) (wSeq2 (wIf (wTest (wOp (dEq) (wVar 4) (wC (.str "lay")))) (wRet (wTup (wCons (wOp dAdd (wVar 1) (wLst (wCons (wVar 5) wNil))) (wCons (wVar 2) wNil)))) wNext) (wSeq2 (wIf (wTest (wOp (dEq) (wVar 4) (wC (.str "forth")))) (wAsg (wOp dAdd (wVar 1) (wLst (wCons (wIxC 1 (wOp dIx (wIxC 1 (wVar 0)) (wVar 5))) wNil))) (wName 1)) wNext) (wSeq2 (wIf (wTest (wOp (dEq) (wVar 4) (wC (.str "back")))) (wAsg (wOp dAdd (wVar 1) (wLst (wCons (wIxC 0 (wOp dIx (wIxC 1 (wVar 0)) (wVar 5))) wNil))) (wName 1)) wNext) (wRet (wTup (wCons (wVar 1) (wCons (wOp dAdd (wVar 2) (wLst (wCons (wVar 5) wNil))) wNil))))))))
theorem dv__law_behind {k : Nat} (T : Tx K mg) : ∀ (f : Addr) (cdv : Value) (A : Around) (outer : List Env) (s : Shared) (H : Hp) (E : XK), Room k (A.deeper (PyProof.Rows.envOfC "_law_behind" (defScope s__law_behind) s.heap.objs.size f cdv)) →
    DSs (cxOf CX0 P w K mg base n__law_behind "_law_behind" (defScope s__law_behind) f cdv A outer s H E).nox (defBody s__law_behind) (rd__law_behind) := fun f cdv A outer s H E hr =>
  (ds_cons (ds_asg (de_var 3) (dg_tup rfl (dgs_cons (dg_name (i := 4) sc__law_behind.nd rfl (by first | exact Or.inl rfl | exact Or.inr rfl)) (dgs_cons (dg_name (i := 5) sc__law_behind.nd rfl (by first | exact Or.inl rfl | exact Or.inr rfl)) dgs_nil)))) (ds_cons (ds_if (dt_cm (cm_eq hr.units) (de_var 4) de_str (nomark _)) (ds_one (ds_ret (de_tup (da_cons (de_add (de_var 1) (de_lst (da_cons (de_var 5) da_nil))) (da_cons (de_var 2) da_nil))))) ds_nil) (ds_cons (ds_if (dt_cm (cm_eq hr.units) (de_var 4) de_str (nomark _)) (ds_one (ds_asg (de_add (de_var 1) (de_lst (da_cons (de_ixc 1 (de_ix (de_ixc 1 (de_var 0)) (de_var 5))) da_nil))) (dg_name (i := 1) sc__law_behind.nd rfl (by first | exact Or.inl rfl | exact Or.inr rfl)))) ds_nil) (ds_cons (ds_if (dt_cm (cm_eq hr.units) (de_var 4) de_str (nomark _)) (ds_one (ds_asg (de_add (de_var 1) (de_lst (da_cons (de_ixc 0 (de_ix (de_ixc 1 (de_var 0)) (de_var 5))) da_nil))) (dg_name (i := 1) sc__law_behind.nd rfl (by first | exact Or.inl rfl | exact Or.inr rfl)))) ds_nil) (ds_one (ds_ret (de_tup (da_cons (de_var 1) (da_cons (de_add (de_var 2) (de_lst (da_cons (de_var 5) da_nil))) da_nil)))))))))
theorem fd__law_behind {k : Nat} {p : PSp} (T : Tx K mg) (len : ∀ ds w Q, p ds w Q → ds.length = 4) (hp : ∀ (d0 d1 d2 d3 : PV) (w' : Wd) (Q : WQ), p [d0, d1, d2, d3] w' Q → rd__law_behind { nx := fun _ w2 => Q .non w2, rt := Q } [some d0, some d1, some d2, some d3, none, none] w') : FD P w K mg base "_law_behind" (k + 1) p :=
  fd_of T.f__law_behind sc__law_behind (dv__law_behind T) len fun ds w' Q h => match ds, len ds w' Q h, h with | [d0, d1, d2, d3], _, h => hp d0 d1 d2 d3 w' Q h
def rd__law_plan (q__law_moves : PSp) (q__law_behind : PSp) (q__law_take : PSp) : WS :=
  (wSeq2 (wPar3 2 3 4 (wCons (wMLst wNil) (wCons (wLst wNil) (wCons (wLst wNil) wNil)))) (wSeq2 (wAsg (wCall q__law_moves (wCons (wVar 1) (wCons (wVar 3) (wCons (wVar 4) wNil)))) (wName 5)) (wSeq2 (wWhile (wTest (wOp (dNe) (wVar 5) (wLst wNil))) (wSeq2 (wDrop (wBM isM mAppend (wVar 2) (wCons (wOp dIx (wVar 5) (wCall q__law_take (wCons (wVar 0) (wCons (wCB cLen (wCons (wVar 5) wNil)) wNil)))) wNil))) (wSeq2 (wAsg (wCall q__law_behind (wCons (wVar 1) (wCons (wVar 3) (wCons (wVar 4) (wCons (wOp dIx (wVar 2) (wNeg (wC (.int 1)))) wNil))))) (wgTup 2 (wgCons (wName 3) (wgCons (wName 4) wgNil)))) (wAsg (wCall q__law_moves (wCons (wVar 1) (wCons (wVar 3) (wCons (wVar 4) wNil)))) (wName 5))))) (wRet (wFrz (wVar 2))))))
theorem dv__law_plan {q__law_moves q__law_behind q__law_take : PSp} {k__law_moves k__law_behind k__law_take k : Nat} (T : Tx K mg) (F__law_moves : FD P w K mg base "_law_moves" k__law_moves q__law_moves) (l__law_moves : k__law_moves ≤ k) (F__law_behind : FD P w K mg base "_law_behind" k__law_behind q__law_behind) (l__law_behind : k__law_behind ≤ k) (F__law_take : FD P w K mg base "_law_take" k__law_take q__law_take) (l__law_take : k__law_take ≤ k) : ∀ (f : Addr) (cdv : Value) (A : Around) (outer : List Env) (s : Shared) (H : Hp) (E : XK), Room k (A.deeper (PyProof.Rows.envOfC "_law_plan" (defScope s__law_plan) s.heap.objs.size f cdv)) →
    DSs (cxOf CX0 P w K mg base n__law_plan "_law_plan" (defScope s__law_plan) f cdv A outer s H E).nox (defBody s__law_plan) (rd__law_plan q__law_moves q__law_behind q__law_take) := fun f cdv A outer s H E hr =>
  (ds_cons (ds_par3 (i := 2) (j := 3) (l := 4) rfl sc__law_plan.nd rfl rfl rfl (by decide) (by decide) (by decide) rfl rfl rfl (da_cons (de_mlst da_nil) (da_cons (de_lst da_nil) (da_cons (de_lst da_nil) da_nil)))) (ds_cons (ds_asg (de_call F__law_moves (hr.mono l__law_moves) (by rfl) (da_cons (de_var 1) (da_cons (de_var 3) (da_cons (de_var 4) da_nil)))) (dg_name (i := 5) sc__law_plan.nd rfl (by first | exact Or.inl rfl | exact Or.inr rfl))) (ds_cons (ds_while PassesOwn.never (dt_cm (cm_ne hr.units) (de_var 5) (de_lst da_nil) (nomark _)) (ds_cons (ds_expr (de_m me_append (de_var 2) (da_cons (de_ix (de_var 5) (de_call F__law_take (hr.mono l__law_take) (by rfl) (da_cons (de_var 0) (da_cons (de_callB (ca_len) (by rfl) T.z_len (by decide +kernel) (da_cons (de_var 5) da_nil)) da_nil)))) da_nil))) (ds_cons (ds_asg (de_call F__law_behind (hr.mono l__law_behind) (by rfl) (da_cons (de_var 1) (da_cons (de_var 3) (da_cons (de_var 4) (da_cons (de_ix (de_var 2) (de_neg de_int)) da_nil))))) (dg_tup rfl (dgs_cons (dg_name (i := 3) sc__law_plan.nd rfl (by first | exact Or.inl rfl | exact Or.inr rfl)) (dgs_cons (dg_name (i := 4) sc__law_plan.nd rfl (by first | exact Or.inl rfl | exact Or.inr rfl)) dgs_nil)))) (ds_one (ds_asg (de_call F__law_moves (hr.mono l__law_moves) (by rfl) (da_cons (de_var 1) (da_cons (de_var 3) (da_cons (de_var 4) da_nil)))) (dg_name (i := 5) sc__law_plan.nd rfl (by first | exact Or.inl rfl | exact Or.inr rfl))))))) (ds_one (ds_ret (de_frz (de_var 2)))))))
theorem fd__law_plan {q__law_moves q__law_behind q__law_take : PSp} {k__law_moves k__law_behind k__law_take k : Nat} {p : PSp} (T : Tx K mg) (F__law_moves : FD P w K mg base "_law_moves" k__law_moves q__law_moves) (l__law_moves : k__law_moves ≤ k) (F__law_behind : FD P w K mg base "_law_behind" k__law_behind q__law_behind) (l__law_behind : k__law_behind ≤ k) (F__law_take : FD P w K mg base "_law_take" k__law_take q__law_take) (l__law_take : k__law_take ≤ k) (len : ∀ ds w Q, p ds w Q → ds.length = 2) (hp : ∀ (d0 d1 : PV) (w' : Wd) (Q : WQ), p [d0, d1] w' Q → rd__law_plan q__law_moves q__law_behind q__law_take { nx := fun _ w2 => Q .non w2, rt := Q } [some d0, some d1, none, none, none, none] w') : FD P w K mg base "_law_plan" (k + 1) p :=
  fd_of T.f__law_plan sc__law_plan (dv__law_plan T F__law_moves l__law_moves F__law_behind l__law_behind F__law_take l__law_take) len fun ds w' Q h => match ds, len ds w' Q h, h with | [d0, d1], _, h => hp d0 d1 w' Q h
def rd__law_is_plan (q__law_behind : PSp) (q__law_moves : PSp) : WS :=
  (wSeq2 (wIf (wNotT (wTest (wCB (cI2 "tuple" "list" isTupP isLstP) (wCons (wVar 1) (wCons (wTup (wCons (wC (.ty "tuple")) (wCons (wC (.ty "list")) wNil))) wNil))))) (wRet (wC (.bl false))) wNext) (wSeq2 (wPar 2 3 (wCons (wLst wNil) (wCons (wLst wNil) wNil))) (wSeq2 (wFor (wSeq (wVar 1)) (wName 4) (wSeq2 (wIf (wOrT (wNotT (wTest (wCB (cI "tuple" isTupP) (wCons (wVar 4) (wCons (wC (.ty "tuple")) wNil))))) (wOrT (wTest (wOp (dNe) (wCB cLen (wCons (wVar 4) wNil)) (wC (.int 2)))) (wTest (wCB (cI "bool" isBoolP) (wCons (wIxC 1 (wVar 4)) (wCons (wC (.ty "bool")) wNil)))))) (wRet (wC (.bl false))) wNext) (wSeq2 (wIf (wTest (wOp (dIn true) (wVar 4) (wCall q__law_moves (wCons (wVar 0) (wCons (wVar 2) (wCons (wVar 3) wNil)))))) (wRet (wC (.bl false))) wNext) (wAsg (wCall q__law_behind (wCons (wVar 0) (wCons (wVar 2) (wCons (wVar 3) (wCons (wVar 4) wNil))))) (wgTup 2 (wgCons (wName 2) (wgCons (wName 3) wgNil))))))) (wRet (wAndV (wOp (dEq) (wCB cLen (wCons (wVar 2) wNil)) (wCB cLen (wCons (wIxC 0 (wVar 0)) wNil))) (wOp (dEq) (wCB cLen (wCons (wVar 3) wNil)) (wCB cLen (wCons (wIxC 1 (wVar 0)) wNil))))))))
theorem dv__law_is_plan {q__law_behind q__law_moves : PSp} {k__law_behind k__law_moves k : Nat} (T : Tx K mg) (F__law_behind : FD P w K mg base "_law_behind" k__law_behind q__law_behind) (l__law_behind : k__law_behind ≤ k) (F__law_moves : FD P w K mg base "_law_moves" k__law_moves q__law_moves) (l__law_moves : k__law_moves ≤ k) : ∀ (f : Addr) (cdv : Value) (A : Around) (outer : List Env) (s : Shared) (H : Hp) (E : XK), Room k (A.deeper (PyProof.Rows.envOfC "_law_is_plan" (defScope s__law_is_plan) s.heap.objs.size f cdv)) →
    DSs (cxOf CX0 P w K mg base n__law_is_plan "_law_is_plan" (defScope s__law_is_plan) f cdv A outer s H E).nox (defBody s__law_is_plan) (rd__law_is_plan q__law_behind q__law_moves) := fun f cdv A outer s H E hr =>
  (ds_cons (ds_if (dt_not (dt_val (de_callB (ca_i2 tr_tup tr_lst) (by rfl) T.z_isinstance (by decide +kernel) (da_cons (de_var 1) (da_cons (de_tup (da_cons (de_ty (by rfl) T.z_tuple (by decide +kernel)) (da_cons (de_ty (by rfl) T.z_list (by decide +kernel)) da_nil))) da_nil))))) (ds_one (ds_ret de_bl)) ds_nil) (ds_cons (ds_par (i := 2) (j := 3) rfl sc__law_is_plan.nd rfl rfl (by decide) rfl rfl (da_cons (de_lst da_nil) (da_cons (de_lst da_nil) da_nil))) (ds_cons (ds_for PassesOwn.never rfl (di_val (de_var 1)) (dg_name (i := 4) sc__law_is_plan.nd rfl (by first | exact Or.inl rfl | exact Or.inr rfl)) (ds_cons (ds_if (dt_w (dw_or (dt_not (dt_val (de_callB (ca_i tr_tup) (by rfl) T.z_isinstance (by decide +kernel) (da_cons (de_var 4) (da_cons (de_ty (by rfl) T.z_tuple (by decide +kernel)) da_nil))))) (dw_or (dt_cm (cm_ne hr.units) (de_callB (ca_len) (by rfl) T.z_len (by decide +kernel) (da_cons (de_var 4) da_nil)) de_int (nomark _)) (dw_or1 (dt_val (de_callB (ca_i tr_bool) (by rfl) T.z_isinstance (by decide +kernel) (da_cons (de_ixc 1 (de_var 4)) (da_cons (de_ty (by rfl) T.z_bool (by decide +kernel)) da_nil)))))))) (ds_one (ds_ret de_bl)) ds_nil) (ds_cons (ds_if (dt_cm (cm_notin hr.units) (de_var 4) (de_call F__law_moves (hr.mono l__law_moves) (by rfl) (da_cons (de_var 0) (da_cons (de_var 2) (da_cons (de_var 3) da_nil)))) (by rfl)) (ds_one (ds_ret de_bl)) ds_nil) (ds_one (ds_asg (de_call F__law_behind (hr.mono l__law_behind) (by rfl) (da_cons (de_var 0) (da_cons (de_var 2) (da_cons (de_var 3) (da_cons (de_var 4) da_nil))))) (dg_tup rfl (dgs_cons (dg_name (i := 2) sc__law_is_plan.nd rfl (by first | exact Or.inl rfl | exact Or.inr rfl)) (dgs_cons (dg_name (i := 3) sc__law_is_plan.nd rfl (by first | exact Or.inl rfl | exact Or.inr rfl)) dgs_nil)))))))) (ds_one (ds_ret (de_and (de_cm (cm_eq hr.units) (de_callB (ca_len) (by rfl) T.z_len (by decide +kernel) (da_cons (de_var 2) da_nil)) (de_callB (ca_len) (by rfl) T.z_len (by decide +kernel) (da_cons (de_ixc 0 (de_var 0)) da_nil)) (nomark _)) (de_one (de_cm (cm_eq hr.units) (de_callB (ca_len) (by rfl) T.z_len (by decide +kernel) (da_cons (de_var 3) da_nil)) (de_callB (ca_len) (by rfl) T.z_len (by decide +kernel) (da_cons (de_ixc 1 (de_var 0)) da_nil)) (nomark _)))))))))
theorem fd__law_is_plan {q__law_behind q__law_moves : PSp} {k__law_behind k__law_moves k : Nat} {p : PSp} (T : Tx K mg) (F__law_behind : FD P w K mg base "_law_behind" k__law_behind q__law_behind) (l__law_behind : k__law_behind ≤ k) (F__law_moves : FD P w K mg base "_law_moves" k__law_moves q__law_moves) (l__law_moves : k__law_moves ≤ k) (len : ∀ ds w Q, p ds w Q → ds.length = 2) (hp : ∀ (d0 d1 : PV) (w' : Wd) (Q : WQ), p [d0, d1] w' Q → rd__law_is_plan q__law_behind q__law_moves { nx := fun _ w2 => Q .non w2, rt := Q } [some d0, some d1, none, none, none] w') : FD P w K mg base "_law_is_plan" (k + 1) p :=
  fd_of T.f__law_is_plan sc__law_is_plan (dv__law_is_plan T F__law_behind l__law_behind F__law_moves l__law_moves) len fun ds w' Q h => match ds, len ds w' Q h, h with | [d0, d1], _, h => hp d0 d1 w' Q h
def rd__law_bent (q__law_take : PSp) : WS :=
  (wSeq2 (wAsg (wCall q__law_take (wCons (wVar 0) (wCons (wCB cLen (wCons (wVar 2) wNil)) wNil))) (wName 3)) (wSeq2 (wAsg (wOp dIx (wLst (wCons (wC (.str "lay")) (wCons (wC (.str "forth")) (wCons (wC (.str "back")) (wCons (wC (.str "meet")) (wCons (wC (.str "Lay")) (wCons (wC (.str "")) (wCons (wC (.str "walk")) wNil)))))))) (wCall q__law_take (wCons (wVar 0) (wCons (wC (.int 7)) wNil)))) (wName 4)) (wSeq2 (wAsg (wOp dSub (wCall q__law_take (wCons (wVar 0) (wCons (wC (.int 7)) wNil))) (wC (.int 1))) (wName 5)) (wSeq2 (wAsg (wOp dAdd (wSl (wVar 2) wNo (wPart (wVar 3))) (wSl (wVar 2) (wPart (wOp dAdd (wVar 3) (wC (.int 1)))) wNo)) (wName 6)) (wSeq2 (wAsg (wMLst (wCons (wVar 6) (wCons (wOp dAdd (wVar 2) (wLst (wCons (wOp dIx (wVar 2) (wVar 3)) wNil))) (wCons (wOp dAdd (wVar 6) (wLst (wCons (wOp dIx (wVar 2) (wVar 3)) wNil))) (wCons (wOp dAdd (wLst (wCons (wOp dIx (wVar 2) (wVar 3)) wNil)) (wVar 6)) (wCons (wOp dAdd (wVar 2) (wLst (wCons (wTup (wCons (wVar 4) (wCons (wVar 5) wNil))) wNil))) wNil)))))) (wName 7)) (wSeq2 (wDrop (wBM isM mAppend (wVar 7) (wCons (wLRev (wVar 2)) wNil))) (wSeq2 (wAsg (wOp dAdd (wVar 7) (wLst (wCons (wOp dAdd (wOp dAdd (wSl (wVar 2) wNo (wPart (wVar 3))) (wLst (wCons (wTup (wCons (wVar 4) (wCons (wIxC 1 (wOp dIx (wVar 2) (wVar 3))) wNil))) wNil))) (wSl (wVar 2) (wPart (wOp dAdd (wVar 3) (wC (.int 1)))) wNo)) wNil))) (wName 7)) (wSeq2 (wAsg (wOp dAdd (wVar 7) (wLst (wCons (wOp dAdd (wOp dAdd (wSl (wVar 2) wNo (wPart (wVar 3))) (wLst (wCons (wTup (wCons (wIxC 0 (wOp dIx (wVar 2) (wVar 3))) (wCons (wVar 5) wNil))) wNil))) (wSl (wVar 2) (wPart (wOp dAdd (wVar 3) (wC (.int 1)))) wNo)) wNil))) (wName 7)) (wSeq2 (wAsg (wLst (wCons (wC .non) (wCons (wTup (wCons (wIxC 0 (wOp dIx (wVar 2) (wVar 3))) wNil)) (wCons (wCB cListX (wCons (wOp dIx (wVar 2) (wVar 3)) wNil)) (wCons (wTup (wCons (wIxC 0 (wOp dIx (wVar 2) (wVar 3))) (wCons (wC (.bl true)) wNil))) (wCons (wTup (wCons (wIxC 0 (wOp dIx (wVar 2) (wVar 3))) (wCons (wIxC 1 (wOp dIx (wVar 2) (wVar 3))) (wCons (wC (.int 0)) wNil)))) (wCons (wC (.str "lay")) wNil))))))) (wName 8)) (wSeq2 (wAsg (wOp dAdd (wVar 8) (wLst (wCons (wTup (wCons (wIxC 1 (wOp dIx (wVar 2) (wVar 3))) (wCons (wIxC 0 (wOp dIx (wVar 2) (wVar 3))) wNil))) (wCons (wTup (wCons (wIxC 0 (wOp dIx (wVar 2) (wVar 3))) (wCons (wC .non) wNil))) (wCons (wTup (wCons (wIxC 0 (wOp dIx (wVar 2) (wVar 3))) (wCons (wC (.str "0")) wNil))) (wCons (wC (.int 7)) (wCons (wTup wNil) (wCons (wTup (wCons (wTup wNil) (wCons (wTup wNil) wNil))) wNil)))))))) (wName 8)) (wSeq2 (wAsg (wOp dAdd (wVar 7) (wLst (wCons (wOp dAdd (wOp dAdd (wSl (wVar 2) wNo (wPart (wVar 3))) (wLst (wCons (wOp dIx (wVar 8) (wCall q__law_take (wCons (wVar 0) (wCons (wC (.int 12)) wNil)))) wNil))) (wSl (wVar 2) (wPart (wOp dAdd (wVar 3) (wC (.int 1)))) wNo)) wNil))) (wName 7)) (wSeq2 (wAsg (wOp dAdd (wVar 7) (wLst (wCons (wOp dIx (wLst (wCons (wC .non) (wCons (wTup wNil) (wCons (wLst wNil) (wCons (wC (.int 0)) (wCons (wC (.str "lay")) (wCons (wC (.bl true)) (wCons (wTup (wCons (wC (.str "lay")) (wCons (wC (.int 0)) wNil))) (wCons (wLst (wCons (wTup (wCons (wC (.str "lay")) (wCons (wC (.int 0)) wNil))) wNil)) (wCons (wC (.str "plan")) wNil)))))))))) (wCall q__law_take (wCons (wVar 0) (wCons (wC (.int 9)) wNil)))) wNil))) (wName 7)) (wRet (wFgt 7 (wOp dIx (wVar 7) (wCall q__law_take (wCons (wVar 0) (wCons (wC (.int 10)) wNil))))))))))))))))))
theorem dv__law_bent {q__law_take : PSp} {k__law_take k : Nat} (T : Tx K mg) (F__law_take : FD P w K mg base "_law_take" k__law_take q__law_take) (l__law_take : k__law_take ≤ k) : ∀ (f : Addr) (cdv : Value) (A : Around) (outer : List Env) (s : Shared) (H : Hp) (E : XK), Room k (A.deeper (PyProof.Rows.envOfC "_law_bent" (defScope s__law_bent) s.heap.objs.size f cdv)) →
    DSs (cxOf CX0 P w K mg base n__law_bent "_law_bent" (defScope s__law_bent) f cdv A outer s H E).nox (defBody s__law_bent) (rd__law_bent q__law_take) := fun f cdv A outer s H E hr =>
  (ds_cons (ds_asg (de_call F__law_take (hr.mono l__law_take) (by rfl) (da_cons (de_var 0) (da_cons (de_callB (ca_len) (by rfl) T.z_len (by decide +kernel) (da_cons (de_var 2) da_nil)) da_nil))) (dg_name (i := 3) sc__law_bent.nd rfl (by first | exact Or.inl rfl | exact Or.inr rfl))) (ds_cons (ds_asg (de_ix (de_lst (da_cons de_str (da_cons de_str (da_cons de_str (da_cons de_str (da_cons de_str (da_cons de_str (da_cons de_str da_nil)))))))) (de_call F__law_take (hr.mono l__law_take) (by rfl) (da_cons (de_var 0) (da_cons de_int da_nil)))) (dg_name (i := 4) sc__law_bent.nd rfl (by first | exact Or.inl rfl | exact Or.inr rfl))) (ds_cons (ds_asg (de_sub (de_call F__law_take (hr.mono l__law_take) (by rfl) (da_cons (de_var 0) (da_cons de_int da_nil))) de_int) (dg_name (i := 5) sc__law_bent.nd rfl (by first | exact Or.inl rfl | exact Or.inr rfl))) (ds_cons (ds_asg (de_add (de_slice (de_var 2) do_none (do_some (de_var 3))) (de_slice (de_var 2) (do_some (de_add (de_var 3) de_int)) do_none)) (dg_name (i := 6) sc__law_bent.nd rfl (by first | exact Or.inl rfl | exact Or.inr rfl))) (ds_cons (ds_asg (de_mlst (da_cons (de_var 6) (da_cons (de_add (de_var 2) (de_lst (da_cons (de_ix (de_var 2) (de_var 3)) da_nil))) (da_cons (de_add (de_var 6) (de_lst (da_cons (de_ix (de_var 2) (de_var 3)) da_nil))) (da_cons (de_add (de_lst (da_cons (de_ix (de_var 2) (de_var 3)) da_nil)) (de_var 6)) (da_cons (de_add (de_var 2) (de_lst (da_cons (de_tup (da_cons (de_var 4) (da_cons (de_var 5) da_nil))) da_nil))) da_nil)))))) (dg_name (i := 7) sc__law_bent.nd rfl (by first | exact Or.inl rfl | exact Or.inr rfl))) (ds_cons (ds_expr (de_m me_append (de_var 7) (da_cons (de_lRev rfl (by rfl) T.z_list (by rfl) T.z_reversed (de_var 2)) da_nil))) (ds_cons (ds_asg (de_add (de_var 7) (de_lst (da_cons (de_add (de_add (de_slice (de_var 2) do_none (do_some (de_var 3))) (de_lst (da_cons (de_tup (da_cons (de_var 4) (da_cons (de_ixc 1 (de_ix (de_var 2) (de_var 3))) da_nil))) da_nil))) (de_slice (de_var 2) (do_some (de_add (de_var 3) de_int)) do_none)) da_nil))) (dg_name (i := 7) sc__law_bent.nd rfl (by first | exact Or.inl rfl | exact Or.inr rfl))) (ds_cons (ds_asg (de_add (de_var 7) (de_lst (da_cons (de_add (de_add (de_slice (de_var 2) do_none (do_some (de_var 3))) (de_lst (da_cons (de_tup (da_cons (de_ixc 0 (de_ix (de_var 2) (de_var 3))) (da_cons (de_var 5) da_nil))) da_nil))) (de_slice (de_var 2) (do_some (de_add (de_var 3) de_int)) do_none)) da_nil))) (dg_name (i := 7) sc__law_bent.nd rfl (by first | exact Or.inl rfl | exact Or.inr rfl))) (ds_cons (ds_asg (de_lst (da_cons de_non (da_cons (de_tup (da_cons (de_ixc 0 (de_ix (de_var 2) (de_var 3))) da_nil)) (da_cons (de_callTy (ca_listX rfl) (by rfl) T.z_list (by decide +kernel) (da_cons (de_ix (de_var 2) (de_var 3)) da_nil)) (da_cons (de_tup (da_cons (de_ixc 0 (de_ix (de_var 2) (de_var 3))) (da_cons de_bl da_nil))) (da_cons (de_tup (da_cons (de_ixc 0 (de_ix (de_var 2) (de_var 3))) (da_cons (de_ixc 1 (de_ix (de_var 2) (de_var 3))) (da_cons de_int da_nil)))) (da_cons de_str da_nil))))))) (dg_name (i := 8) sc__law_bent.nd rfl (by first | exact Or.inl rfl | exact Or.inr rfl))) (ds_cons (ds_asg (de_add (de_var 8) (de_lst (da_cons (de_tup (da_cons (de_ixc 1 (de_ix (de_var 2) (de_var 3))) (da_cons (de_ixc 0 (de_ix (de_var 2) (de_var 3))) da_nil))) (da_cons (de_tup (da_cons (de_ixc 0 (de_ix (de_var 2) (de_var 3))) (da_cons de_non da_nil))) (da_cons (de_tup (da_cons (de_ixc 0 (de_ix (de_var 2) (de_var 3))) (da_cons de_str da_nil))) (da_cons de_int (da_cons (de_tup da_nil) (da_cons (de_tup (da_cons (de_tup da_nil) (da_cons (de_tup da_nil) da_nil))) da_nil)))))))) (dg_name (i := 8) sc__law_bent.nd rfl (by first | exact Or.inl rfl | exact Or.inr rfl))) (ds_cons (ds_asg (de_add (de_var 7) (de_lst (da_cons (de_add (de_add (de_slice (de_var 2) do_none (do_some (de_var 3))) (de_lst (da_cons (de_ix (de_var 8) (de_call F__law_take (hr.mono l__law_take) (by rfl) (da_cons (de_var 0) (da_cons de_int da_nil)))) da_nil))) (de_slice (de_var 2) (do_some (de_add (de_var 3) de_int)) do_none)) da_nil))) (dg_name (i := 7) sc__law_bent.nd rfl (by first | exact Or.inl rfl | exact Or.inr rfl))) (ds_cons (ds_asg (de_add (de_var 7) (de_lst (da_cons (de_ix (de_lst (da_cons de_non (da_cons (de_tup da_nil) (da_cons (de_lst da_nil) (da_cons de_int (da_cons de_str (da_cons de_bl (da_cons (de_tup (da_cons de_str (da_cons de_int da_nil))) (da_cons (de_lst (da_cons (de_tup (da_cons de_str (da_cons de_int da_nil))) da_nil)) (da_cons de_str da_nil)))))))))) (de_call F__law_take (hr.mono l__law_take) (by rfl) (da_cons (de_var 0) (da_cons de_int da_nil)))) da_nil))) (dg_name (i := 7) sc__law_bent.nd rfl (by first | exact Or.inl rfl | exact Or.inr rfl))) (ds_one (ds_ret (de_fgt 7 (de_ix (de_var 7) (de_call F__law_take (hr.mono l__law_take) (by rfl) (da_cons (de_var 0) (da_cons de_int da_nil)))))))))))))))))))
theorem fd__law_bent {q__law_take : PSp} {k__law_take k : Nat} {p : PSp} (T : Tx K mg) (F__law_take : FD P w K mg base "_law_take" k__law_take q__law_take) (l__law_take : k__law_take ≤ k) (len : ∀ ds w Q, p ds w Q → ds.length = 3) (hp : ∀ (d0 d1 d2 : PV) (w' : Wd) (Q : WQ), p [d0, d1, d2] w' Q → rd__law_bent q__law_take { nx := fun _ w2 => Q .non w2, rt := Q } [some d0, some d1, some d2, none, none, none, none, none, none] w') : FD P w K mg base "_law_bent" (k + 1) p :=
  fd_of T.f__law_bent sc__law_bent (dv__law_bent T F__law_take l__law_take) len fun ds w' Q h => match ds, len ds w' Q h, h with | [d0, d1, d2], _, h => hp d0 d1 d2 w' Q h
def rd_law (q__law_is_plan : PSp) (q_is_plan : PSp) (q__law_bent : PSp) (q__law_plan : PSp) (q__law_box : PSp) (q__law_pattern : PSp) : WS :=
  (wSeq2 (wAsg (wCall q__law_pattern (wCons (wCall q__law_box (wCons (wVar 0) (wCons (wC (.int 1)) wNil))) wNil)) (wName 1)) (wSeq2 (wFor (wRng1 (wCons (wCB cMin2 (wCons (wC (.int 20)) (wCons (wOp dAdd (wC (.int 1)) (wCB cLen (wCons (wVar 0) wNil))) wNil))) wNil)) (wName 2) (wSeq2 (wAsg (wCall q__law_box (wCons (wVar 0) (wCons (wVar 2) wNil))) (wName 3)) (wSeq2 (wAsg (wCall q__law_plan (wCons (wVar 3) (wCons (wVar 1) wNil))) (wName 4)) (wSeq2 (wIf (wOrT (wTest (wOp (dIs true) (wCall q_is_plan (wCons (wVar 1) (wCons (wVar 4) wNil))) (wC (.bl true)))) (wTest (wOp (dIs true) (wCall q_is_plan (wCons (wVar 1) (wCons (wCB cTuple (wCons (wVar 4) wNil)) wNil))) (wC (.bl true))))) (wRet (wC (.bl false))) wNext) (wFor (wRng1 (wCons (wC (.int 4)) wNil)) (wName 5) (wSeq2 (wAsg (wCall q__law_bent (wCons (wVar 3) (wCons (wVar 1) (wCons (wVar 4) wNil)))) (wName 6)) (wSeq2 (wAsg (wCall q_is_plan (wCons (wVar 1) (wCons (wVar 6) wNil))) (wName 7)) (wIf (wOrT (wNotT (wTest (wCB (cI "bool" isBoolP) (wCons (wVar 7) (wCons (wC (.ty "bool")) wNil))))) (wTest (wOp (dNe) (wVar 7) (wCall q__law_is_plan (wCons (wVar 1) (wCons (wVar 6) wNil)))))) (wRet (wC (.bl false))) wNext)))))))) (wRet (wC (.bl true)))))
theorem dv_law {q__law_is_plan q_is_plan q__law_bent q__law_plan q__law_box q__law_pattern : PSp} {k__law_is_plan k_is_plan k__law_bent k__law_plan k__law_box k__law_pattern k : Nat} (T : Tx K mg) (F__law_is_plan : FD P w K mg base "_law_is_plan" k__law_is_plan q__law_is_plan) (l__law_is_plan : k__law_is_plan ≤ k) (F_is_plan : FD P w K mg base "is_plan" k_is_plan q_is_plan) (l_is_plan : k_is_plan ≤ k) (F__law_bent : FD P w K mg base "_law_bent" k__law_bent q__law_bent) (l__law_bent : k__law_bent ≤ k) (F__law_plan : FD P w K mg base "_law_plan" k__law_plan q__law_plan) (l__law_plan : k__law_plan ≤ k) (F__law_box : FD P w K mg base "_law_box" k__law_box q__law_box) (l__law_box : k__law_box ≤ k) (F__law_pattern : FD P w K mg base "_law_pattern" k__law_pattern q__law_pattern) (l__law_pattern : k__law_pattern ≤ k) : ∀ (f : Addr) (cdv : Value) (A : Around) (outer : List Env) (s : Shared) (H : Hp) (E : XK), Room k (A.deeper (PyProof.Rows.envOfC "law" (defScope s_law) s.heap.objs.size f cdv)) →
    DSs (cxOf CX0 P w K mg base n_law "law" (defScope s_law) f cdv A outer s H E).nox (defBody s_law) (rd_law q__law_is_plan q_is_plan q__law_bent q__law_plan q__law_box q__law_pattern) := fun f cdv A outer s H E hr =>
  (ds_cons (ds_asg (de_call F__law_pattern (hr.mono l__law_pattern) (by rfl) (da_cons (de_call F__law_box (hr.mono l__law_box) (by rfl) (da_cons (de_var 0) (da_cons de_int da_nil))) da_nil)) (dg_name (i := 1) sc_law.nd rfl (by first | exact Or.inl rfl | exact Or.inr rfl))) (ds_cons (ds_for PassesOwn.never rfl (di_range1 (by rfl) T.z_range (da_cons (de_callB (ca_min2 rfl) (by rfl) T.z_min (by decide +kernel) (da_cons de_int (da_cons (de_add de_int (de_callB (ca_len) (by rfl) T.z_len (by decide +kernel) (da_cons (de_var 0) da_nil))) da_nil))) da_nil)) (dg_name (i := 2) sc_law.nd rfl (by first | exact Or.inl rfl | exact Or.inr rfl)) (ds_cons (ds_asg (de_call F__law_box (hr.mono l__law_box) (by rfl) (da_cons (de_var 0) (da_cons (de_var 2) da_nil))) (dg_name (i := 3) sc_law.nd rfl (by first | exact Or.inl rfl | exact Or.inr rfl))) (ds_cons (ds_asg (de_call F__law_plan (hr.mono l__law_plan) (by rfl) (da_cons (de_var 3) (da_cons (de_var 1) da_nil))) (dg_name (i := 4) sc_law.nd rfl (by first | exact Or.inl rfl | exact Or.inr rfl))) (ds_cons (ds_if (dt_w (dw_or (dt_cm (cm_isnot) (de_call F_is_plan (hr.mono l_is_plan) (by rfl) (da_cons (de_var 1) (da_cons (de_var 4) da_nil))) de_bl (nomark _)) (dw_or1 (dt_cm (cm_isnot) (de_call F_is_plan (hr.mono l_is_plan) (by rfl) (da_cons (de_var 1) (da_cons (de_callTy (ca_tuple) (by rfl) T.z_tuple (by decide +kernel) (da_cons (de_var 4) da_nil)) da_nil))) de_bl (nomark _))))) (ds_one (ds_ret de_bl)) ds_nil) (ds_one (ds_for PassesOwn.never rfl (di_range1 (by rfl) T.z_range (da_cons de_int da_nil)) (dg_name (i := 5) sc_law.nd rfl (by first | exact Or.inl rfl | exact Or.inr rfl)) (ds_cons (ds_asg (de_call F__law_bent (hr.mono l__law_bent) (by rfl) (da_cons (de_var 3) (da_cons (de_var 1) (da_cons (de_var 4) da_nil)))) (dg_name (i := 6) sc_law.nd rfl (by first | exact Or.inl rfl | exact Or.inr rfl))) (ds_cons (ds_asg (de_call F_is_plan (hr.mono l_is_plan) (by rfl) (da_cons (de_var 1) (da_cons (de_var 6) da_nil))) (dg_name (i := 7) sc_law.nd rfl (by first | exact Or.inl rfl | exact Or.inr rfl))) (ds_one (ds_if (dt_w (dw_or (dt_not (dt_val (de_callB (ca_i tr_bool) (by rfl) T.z_isinstance (by decide +kernel) (da_cons (de_var 7) (da_cons (de_ty (by rfl) T.z_bool (by decide +kernel)) da_nil))))) (dw_or1 (dt_cm (cm_ne hr.units) (de_var 7) (de_call F__law_is_plan (hr.mono l__law_is_plan) (by rfl) (da_cons (de_var 1) (da_cons (de_var 6) da_nil))) (nomark _))))) (ds_one (ds_ret de_bl)) ds_nil)))))))))) (ds_one (ds_ret de_bl))))
theorem fn_law {q__law_is_plan q_is_plan q__law_bent q__law_plan q__law_box q__law_pattern : PSp} {k__law_is_plan k_is_plan k__law_bent k__law_plan k__law_box k__law_pattern k : Nat} {p : PSp} {fa : Addr} {fd : FuncData} (T : Tx K mg) (F : Fun K "law" "law" s_law fa fd) (F__law_is_plan : FD P w K mg base "_law_is_plan" k__law_is_plan q__law_is_plan) (l__law_is_plan : k__law_is_plan ≤ k) (F_is_plan : FD P w K mg base "is_plan" k_is_plan q_is_plan) (l_is_plan : k_is_plan ≤ k) (F__law_bent : FD P w K mg base "_law_bent" k__law_bent q__law_bent) (l__law_bent : k__law_bent ≤ k) (F__law_plan : FD P w K mg base "_law_plan" k__law_plan q__law_plan) (l__law_plan : k__law_plan ≤ k) (F__law_box : FD P w K mg base "_law_box" k__law_box q__law_box) (l__law_box : k__law_box ≤ k) (F__law_pattern : FD P w K mg base "_law_pattern" k__law_pattern q__law_pattern) (l__law_pattern : k__law_pattern ≤ k) (len : ∀ ds w Q, p ds w Q → ds.length = 1) (hp : ∀ (d0 : PV) (w' : Wd) (Q : WQ), p [d0] w' Q → rd_law q__law_is_plan q_is_plan q__law_bent q__law_plan q__law_box q__law_pattern { nx := fun _ w2 => Q .non w2, rt := Q } [some d0, none, none, none, none, none, none, none] w') : FnOk P w K mg base CX0 (k + 1) fa fd ["_law_script"] (upSp ⟨P, w, K⟩ p) :=
  fn_of_law F sc_law (dv_law T F__law_is_plan l__law_is_plan F_is_plan l_is_plan F__law_bent l__law_bent F__law_plan l__law_plan F__law_box l__law_box F__law_pattern l__law_pattern) len fun ds w' Q h => match ds, len ds w' Q h, h with | [d0], _, h => hp d0 w' Q h
end
end Lw

namespace Lw
open PySem L2 Pd Pl
local macro_rules | `(tactic| walk_at "get") => `(tactic| repeat (first | assumption | exact wset_same | refine Frm.get (by assumption) (by assumption) ?_ | refine wset_get (by assumption) ?_))
local macro_rules | `(tactic| walk_at "len") => `(tactic| focus (first | (rw [sizeLine_eq]; (try simp only [List.length_append, List.length_cons, List.length_nil, List.length_map, List.length_replicate, List.length_reverse]); omega) | (rw [sizeLine_eq]; simp; done) | omega))
local macro_rules | `(tactic| walk_at "call") => `(tactic| fail "none")
local macro_rules | `(tactic| walk_at "go") => `(tactic| (repeat (first | with_reducible refine Stp.go ?_ | dsimp only [List.set] | (walk_at "call") | (with_reducible refine x_rixMiss (by decide) ?_) | (with_reducible refine x_isM (by walk_at "get") ?_) | ((with_reducible refine x_app (by walk_at "get") ?_ ?_); walk_at "len") | ((with_reducible refine x_extL (by walk_at "get") ?_ ?_); walk_at "len") | (with_reducible refine x_tupR (by walk_at "get") ?_) | (with_reducible refine x_frzR (by walk_at "get") ?_) | ((with_reducible refine x_addRL (by walk_at "get") ?_ ?_); walk_at "len") | with_reducible refine x_rixr (by first | assumption | exact wset_same) ?_ | with_reducible refine x_lenR (by first | assumption | exact wset_same) ?_ | ((with_reducible refine x_rsubc (by first | assumption | exact wset_same) ?_ ?_); (first | (focus (simp; done)) | (focus (simp; omega)))) | ((with_reducible refine x_gtup ?_ ?_); (first | rfl | (focus (simp; done)))) | ((with_reducible refine x_cI ?_ ?_); (first | exact True.intro | assumption)) | ((with_reducible refine x_cI2 ?_ ?_); (first | exact True.intro | assumption)) | ((with_reducible refine x_addL ?_ ?_); walk_at "len") | ((with_reducible refine x_addT ?_ ?_); walk_at "len") | ((with_reducible refine x_addS ?_ ?_); (first | (focus (show _ ≤ sizeLine; rw [sizeLine_eq]; simp; done)) | omega)) | ((with_reducible refine x_mod ?_ ?_); (first | omega | assumption)) | ((with_reducible refine x_fdiv ?_ ?_ ?_); (first | omega | assumption); (first | omega | assumption)) | ((with_reducible refine x_mul ?_ ?_); (first | (left; omega) | (right; omega))) | ((with_reducible refine x_pow ?_ ?_ ?_ ?_); decide; decide; decide; (try simp only [Int.reduceToNat, Int.reducePow])) | ((with_reducible refine x_and ?_ ?_); (first | (focus (show _ ≤ sizeLine; rw [sizeLine_eq]; simp; done)) | omega)) | ((with_reducible refine x_rrng1 ?_ ?_ ?_); omega; omega) | ((with_reducible refine x_iteT ?_ ?_); (first | omega | assumption)) | ((with_reducible refine x_iteF ?_ ?_); (first | omega | assumption)) | ((with_reducible refine x_iteNT ?_ ?_); (first | omega | assumption)) | ((with_reducible refine x_iteNF ?_ ?_); (first | omega | assumption)) | with_reducible refine L2.iteT ?_ | with_reducible refine L2.iteF ?_ | simp only [wset_wset] | ((with_reducible refine x_iteV ?_ ?_); focus (first | rfl | assumption)) | ((with_reducible refine x_iteW ?_ ?_); focus (first | rfl | assumption)) | ((with_reducible refine x_iteNV ?_ ?_); focus (first | rfl | assumption)) | ((with_reducible refine x_iteNW ?_ ?_); focus (first | rfl | assumption)) | ((with_reducible refine x_iteV ?_ ?_); focus (decide +kernel)) | ((with_reducible refine x_iteW ?_ ?_); focus (decide +kernel)) | ((with_reducible refine x_iteNV ?_ ?_); focus (decide +kernel)) | ((with_reducible refine x_iteNW ?_ ?_); focus (decide +kernel)))))
local macro_rules | `(tactic| walk_at "gos") => `(tactic| (repeat' (first | with_reducible refine Stp.go ?_ | dsimp only [List.set] | (walk_at "call") | (with_reducible refine x_rixMiss (by decide) ?_) | (with_reducible refine x_isM (by walk_at "get") ?_) | ((with_reducible refine x_app (by walk_at "get") ?_ ?_); walk_at "len") | ((with_reducible refine x_extL (by walk_at "get") ?_ ?_); walk_at "len") | (with_reducible refine x_tupR (by walk_at "get") ?_) | (with_reducible refine x_frzR (by walk_at "get") ?_) | ((with_reducible refine x_addRL (by walk_at "get") ?_ ?_); walk_at "len") | with_reducible refine x_rixr (by first | assumption | exact wset_same) ?_ | with_reducible refine x_lenR (by first | assumption | exact wset_same) ?_ | ((with_reducible refine x_rsubc (by first | assumption | exact wset_same) ?_ ?_); (first | (focus (simp; done)) | (focus (simp; omega)))) | ((with_reducible refine x_gtup ?_ ?_); (first | rfl | (focus (simp; done)))) | ((with_reducible refine x_cI ?_ ?_); (first | exact True.intro | assumption)) | ((with_reducible refine x_cI2 ?_ ?_); (first | exact True.intro | assumption)) | ((with_reducible refine x_addL ?_ ?_); walk_at "len") | ((with_reducible refine x_addT ?_ ?_); walk_at "len") | ((with_reducible refine x_addS ?_ ?_); (first | (focus (show _ ≤ sizeLine; rw [sizeLine_eq]; simp; done)) | omega)) | ((with_reducible refine x_mod ?_ ?_); (first | omega | assumption)) | ((with_reducible refine x_fdiv ?_ ?_ ?_); (first | omega | assumption); (first | omega | assumption)) | ((with_reducible refine x_mul ?_ ?_); (first | (left; omega) | (right; omega))) | ((with_reducible refine x_pow ?_ ?_ ?_ ?_); decide; decide; decide; (try simp only [Int.reduceToNat, Int.reducePow])) | ((with_reducible refine x_and ?_ ?_); (first | (focus (show _ ≤ sizeLine; rw [sizeLine_eq]; simp; done)) | omega)) | ((with_reducible refine x_rrng1 ?_ ?_ ?_); omega; omega) | ((with_reducible refine x_iteT ?_ ?_); (first | omega | assumption)) | ((with_reducible refine x_iteF ?_ ?_); (first | omega | assumption)) | ((with_reducible refine x_iteNT ?_ ?_); (first | omega | assumption)) | ((with_reducible refine x_iteNF ?_ ?_); (first | omega | assumption)) | with_reducible refine L2.iteT ?_ | with_reducible refine L2.iteF ?_ | simp only [wset_wset] | ((with_reducible refine x_iteV ?_ ?_); focus (first | rfl | assumption)) | ((with_reducible refine x_iteW ?_ ?_); focus (first | rfl | assumption)) | ((with_reducible refine x_iteNV ?_ ?_); focus (first | rfl | assumption)) | ((with_reducible refine x_iteNW ?_ ?_); focus (first | rfl | assumption)) | ((with_reducible refine x_iteV ?_ ?_); focus (decide +kernel)) | ((with_reducible refine x_iteW ?_ ?_); focus (decide +kernel)) | ((with_reducible refine x_iteNV ?_ ?_); focus (decide +kernel)) | ((with_reducible refine x_iteNW ?_ ?_); focus (decide +kernel)) | (with_reducible refine x_ixT2 (by omega) (by omega) (fun _ => ?_) (fun _ => ?_)) | (with_reducible refine x_ixL2 (by omega) (by omega) (fun _ => ?_) (fun _ => ?_)) | (with_reducible refine x_ixT3 (by omega) (by omega) (fun _ => ?_) (fun _ => ?_) (fun _ => ?_)) | (with_reducible refine x_ixL3 (by omega) (by omega) (fun _ => ?_) (fun _ => ?_) (fun _ => ?_)) | (with_reducible refine x_ixT4 (by omega) (by omega) (fun _ => ?_) (fun _ => ?_) (fun _ => ?_) (fun _ => ?_)) | (with_reducible refine x_ixL4 (by omega) (by omega) (fun _ => ?_) (fun _ => ?_) (fun _ => ?_) (fun _ => ?_)) | (with_reducible refine x_ixT5 (by omega) (by omega) (fun _ => ?_) (fun _ => ?_) (fun _ => ?_) (fun _ => ?_) (fun _ => ?_)) | (with_reducible refine x_ixL5 (by omega) (by omega) (fun _ => ?_) (fun _ => ?_) (fun _ => ?_) (fun _ => ?_) (fun _ => ?_)) | (with_reducible refine x_ixT6 (by omega) (by omega) (fun _ => ?_) (fun _ => ?_) (fun _ => ?_) (fun _ => ?_) (fun _ => ?_) (fun _ => ?_)) | (with_reducible refine x_ixL6 (by omega) (by omega) (fun _ => ?_) (fun _ => ?_) (fun _ => ?_) (fun _ => ?_) (fun _ => ?_) (fun _ => ?_)) | (with_reducible refine x_ite (fun _ => ?_) (fun _ => ?_)) | (with_reducible refine x_iteN (fun _ => ?_) (fun _ => ?_)))))
local macro_rules | `(tactic| walk_at "frm") => `(tactic| repeat (first | assumption | exact Frm.refl _ _ | refine Frm.trans ?_ (by assumption)))
section
variable {P : Program} {w : World} {K : Frag} {mg : Str → Option Value} {base : Heap}
theorem ok_take (T : Tx K mg) : FD P w K mg base "_law_take" 1 qTake := fd__law_take T (by rintro ds w Q ⟨a, b, f, rfl, _⟩; rfl) (by
  rintro d0 d1 w' Q ⟨a, m, f, e, hm, hm2, ⟨mo, hw, x, y, c, rfl, h1, h2, h3, h4, h5⟩, k⟩
  cases e
  have md : ∀ x : Int, 0 ≤ x % m ∧ x % m < m := fun x => ⟨Int.emod_nonneg _ (by omega), Int.emod_lt_of_pos _ hm⟩
  have dv : ∀ x : Int, 0 ≤ x → 0 ≤ x / m := fun x hx => Int.ediv_nonneg hx (by omega)
  unfold rd__law_take
  walk_at "go"
  refine x_ite (fun hc => ?_) (fun hc => ?_)
  · walk_at "go"
    exact k _ _ (md _).1 (md _).2 (hnd_set (dv _ h1) h2 h3 h4 (by omega)) (Frm.set _ _ _)
  · walk_at "go"
    exact k _ _ (md _).1 (md _).2 (hnd_set h1 h2 h3 (by omega) (by omega)) (Frm.set _ _ _))
/-- a hand of the script's k-th cell, three numbers -/
theorem ok_box (T : Tx K mg) : FD P w K mg base "_law_box" 1 qHandK := fd__law_box T (by rintro ds w Q ⟨ns, k, rfl, _⟩; rfl) (by
  rintro d0 d1 w' Q ⟨ns, k, e, hk0, hk1, h⟩
  cases e
  unfold rd__law_box
  have tail : ∀ (cell : Int) (p : Addr), w' p = none → Q (.ref p) (wset w' p (.lst [.int ((if cell < 0 then -cell else cell) * if decide (1000000000000000000 ≤ if cell < 0 then -cell else cell) = true then 1 else 0), .int (cell % 2305843009213693951), .int (7 * k)])) := by
    intro cell p hp
    have a0 : 0 ≤ (if cell < 0 then -cell else cell) := by split <;> omega
    have m0 : 0 ≤ cell % 2305843009213693951 := Int.emod_nonneg _ (by omega)
    have m1 : cell % 2305843009213693951 < 2305843009213693951 := Int.emod_lt_of_pos _ (by omega)
    refine h p _ hp ⟨_, _, _, rfl, Int.mul_nonneg a0 (by split <;> omega), by omega, by omega, by omega, by omega⟩
  walk_at "go"
  refine x_ite (fun h1 => ?_) fun h1 => ?_
  · walk_at "go"
    obtain ⟨d, hd, hm⟩ := atI_lt (xs := ns.map PV.int) hk0 h1
    obtain ⟨x, _, rfl⟩ := List.mem_map.mp hm
    refine x_ixZ hd ?_
    walk_at "go"
    exact tail x
  · walk_at "go"
    exact tail 0)
abbrev Bow := (Nat × Nat) × PV × PV
def encB (b : Bow) : PV := .tup [.int b.1.1, .int b.1.2, b.2.1, b.2.2]
def spot0 : PV := .tup [.non, .tup [.str "any"]]
def encP (n : Nat) (bows : List Bow) : PV := .tup [.tup (List.replicate n spot0), .tup (bows.map encB), .tup []]
def ends (bows : List Bow) : Bs := bows.map (·.1)
def qPat : PSp := fun ds w Q => ∃ a F, ds = [.ref a] ∧ Hnd w a F ∧ 60 ≤ F ∧ ∀ n bows w', PatOk n (ends bows) → Q (encP n bows) w'
theorem rep_flat (n : Nat) : (List.replicate n [spot0]).flatten = List.replicate n spot0 := by
  induction n with
  | zero => rfl
  | succ n ih => rw [List.replicate_succ, List.flatten_cons, ih]; rfl
local macro_rules | `(tactic| walk_at "call") => `(tactic| first | with_reducible refine x_take (by assumption) (by omega) (by omega) (by omega) (fun _ _ _ _ _ _ => ?_) | with_reducible refine x_ixMem (by omega) (by simp; omega) (fun _ _ => ?_))
theorem ok_pat (T : Tx K mg) : FD P w K mg base "_law_pattern" 2 qPat := fd__law_pattern T (ok_take T) (Nat.le_refl _) (by rintro ds w Q ⟨a, f, rfl, _⟩; rfl) (by
  rintro d0 w' Q ⟨a, F, e, hH, hF, h⟩
  cases e
  unfold rd__law_pattern
  walk_at "go"
  rename_i i1 w1 g1 g2 hH1 _ i2 w2 g3 g4 hH2 _
  refine x_ifSet (n := 1) (j := .int (1 + i1)) (fun d hd => ?_) rfl
  have hn : ∃ n : Nat, d = .int n ∧ 1 ≤ n ∧ n ≤ 5 := by
    rcases hd with rfl | rfl
    · exact ⟨5, rfl, by omega, by omega⟩
    · refine ⟨(1 + i1).toNat, ?_, by omega, by omega⟩
      congr 1; omega
  obtain ⟨n, rfl, n1, n5⟩ := hn
  walk_at "go"
  refine x_mulT (by omega) (by omega) (by simp) ?_
  rw [show (List.replicate (n : Int).toNat [PV.tup [.non, .tup [.str "any"]]]).flatten = List.replicate n spot0 from rep_flat n]
  walk_at "go"
  intro p hp
  have np : p ≠ a := fun z => by obtain ⟨m, q, _⟩ := hH2; rw [z, q] at hp; cases hp
  have hH3 : Hnd (wset w2 p (.lst [])) a (F - 1 - 1) := by
    obtain ⟨m, q, r⟩ := hH2; exact ⟨m, by rw [wset_ne (Ne.symm np)]; exact q, r⟩
  have hp3 : wset w2 p (.lst []) p = some (.lst []) := wset_same
  generalize wset w2 p (.lst []) = w3 at hH3 hp3
  walk_at "go"
  rename_i i4 w4 g5 g6 hH4 f4
  refine for_ind (fun rest ρ w5 => ∃ (bows : List Bow) (o4 o5 : Option PV) (G : Nat), ρ = [some (.ref a), some (.int n), some (.tup (List.replicate n spot0)), some (.ref p), o4, o5] ∧ w5 p = some (.lst (bows.map encB)) ∧ Hnd w5 a G ∧ 10 * rest.length ≤ G ∧ bows.length + rest.length ≤ 5 ∧ ∀ b ∈ ends bows, b.1 < n ∧ b.2 < n) ?_ ?_ _ _ _ ⟨[], _, _, _, rfl, ?_, hH4, ?_, ?_, ?_⟩
  · rintro ρ w5 ⟨bows, o4, o5, G, rfl, hp5, hH5, hl, hc, hb⟩
    walk_at "go"
    exact h n bows _ ⟨n1, n5, by simpa [ends] using hc, hb⟩
  · rintro d r ρ w5 N hN ⟨bows, o4, o5, G, rfl, hp5, hH5, hl, hc, hb⟩
    rw [List.length_cons] at hl hc
    walk_at "go"
    rename_i i5 w6 _ _ _ _ x5 _ i7 w7 g7 g8 _ _ i9 w8 g9 g10 _ _ i11 w9 _ _ hH9 _ x9 _
    refine hN _ _ ⟨bows ++ [((i7.toNat, i9.toNat), x9, .tup [.str "step", x5, .str "forth"])], _, _, _, rfl, ?_, hH9.set np, by omega, by rw [List.length_append, List.length_cons, List.length_nil]; omega, ?_⟩
    · rw [wset_same, List.map_append, List.map_cons, List.map_nil]
      simp only [encB]
      rw [show ((i7.toNat : Nat) : Int) = i7 by omega, show ((i9.toNat : Nat) : Int) = i9 by omega]
    · intro b hb'
      simp only [ends, List.map_append, List.map_cons, List.map_nil, List.mem_append, List.mem_singleton] at hb'
      rcases hb' with q | rfl
      · exact hb b q
      · exact ⟨by simp only; omega, by simp only; omega⟩
  · rw [f4 p np]; exact hp3
  · rw [nums_length]; omega
  · rw [nums_length]; simp; omega
  · intro b hb; simp [ends] at hb)
end
end Lw

namespace Lw
open PySem L2 Pd Pl
local macro_rules | `(tactic| walk_at "get") => `(tactic| repeat (first | assumption | exact wset_same | refine Frm.get (by assumption) (by assumption) ?_ | refine wset_get (by assumption) ?_))
local macro_rules | `(tactic| walk_at "len") => `(tactic| focus (first | (rw [sizeLine_eq]; (try simp only [List.length_append, List.length_cons, List.length_nil, List.length_map, List.length_replicate, List.length_reverse]); omega) | (rw [sizeLine_eq]; simp; done) | omega))
local macro_rules | `(tactic| walk_at "call") => `(tactic| fail "none")
local macro_rules | `(tactic| walk_at "go") => `(tactic| (repeat (first | with_reducible refine Stp.go ?_ | dsimp only [List.set] | (walk_at "call") | (with_reducible refine x_rixMiss (by decide) ?_) | (with_reducible refine x_isM (by walk_at "get") ?_) | ((with_reducible refine x_app (by walk_at "get") ?_ ?_); walk_at "len") | ((with_reducible refine x_extL (by walk_at "get") ?_ ?_); walk_at "len") | (with_reducible refine x_tupR (by walk_at "get") ?_) | (with_reducible refine x_frzR (by walk_at "get") ?_) | ((with_reducible refine x_addRL (by walk_at "get") ?_ ?_); walk_at "len") | with_reducible refine x_rixr (by first | assumption | exact wset_same) ?_ | with_reducible refine x_lenR (by first | assumption | exact wset_same) ?_ | ((with_reducible refine x_rsubc (by first | assumption | exact wset_same) ?_ ?_); (first | (focus (simp; done)) | (focus (simp; omega)))) | ((with_reducible refine x_gtup ?_ ?_); (first | rfl | (focus (simp; done)))) | ((with_reducible refine x_cI ?_ ?_); (first | exact True.intro | assumption)) | ((with_reducible refine x_cI2 ?_ ?_); (first | exact True.intro | assumption)) | ((with_reducible refine x_addL ?_ ?_); walk_at "len") | ((with_reducible refine x_addT ?_ ?_); walk_at "len") | ((with_reducible refine x_addS ?_ ?_); (first | (focus (show _ ≤ sizeLine; rw [sizeLine_eq]; simp; done)) | omega)) | ((with_reducible refine x_mod ?_ ?_); (first | omega | assumption)) | ((with_reducible refine x_fdiv ?_ ?_ ?_); (first | omega | assumption); (first | omega | assumption)) | ((with_reducible refine x_mul ?_ ?_); (first | (left; omega) | (right; omega))) | ((with_reducible refine x_pow ?_ ?_ ?_ ?_); decide; decide; decide; (try simp only [Int.reduceToNat, Int.reducePow])) | ((with_reducible refine x_and ?_ ?_); (first | (focus (show _ ≤ sizeLine; rw [sizeLine_eq]; simp; done)) | omega)) | ((with_reducible refine x_rrng1 ?_ ?_ ?_); omega; omega) | ((with_reducible refine x_iteT ?_ ?_); (first | omega | assumption)) | ((with_reducible refine x_iteF ?_ ?_); (first | omega | assumption)) | ((with_reducible refine x_iteNT ?_ ?_); (first | omega | assumption)) | ((with_reducible refine x_iteNF ?_ ?_); (first | omega | assumption)) | with_reducible refine L2.iteT ?_ | with_reducible refine L2.iteF ?_ | simp only [wset_wset] | ((with_reducible refine x_iteV ?_ ?_); focus (first | rfl | assumption)) | ((with_reducible refine x_iteW ?_ ?_); focus (first | rfl | assumption)) | ((with_reducible refine x_iteNV ?_ ?_); focus (first | rfl | assumption)) | ((with_reducible refine x_iteNW ?_ ?_); focus (first | rfl | assumption)) | ((with_reducible refine x_iteV ?_ ?_); focus (decide +kernel)) | ((with_reducible refine x_iteW ?_ ?_); focus (decide +kernel)) | ((with_reducible refine x_iteNV ?_ ?_); focus (decide +kernel)) | ((with_reducible refine x_iteNW ?_ ?_); focus (decide +kernel)))))
local macro_rules | `(tactic| walk_at "gos") => `(tactic| (repeat' (first | with_reducible refine Stp.go ?_ | dsimp only [List.set] | (walk_at "call") | (with_reducible refine x_rixMiss (by decide) ?_) | (with_reducible refine x_isM (by walk_at "get") ?_) | ((with_reducible refine x_app (by walk_at "get") ?_ ?_); walk_at "len") | ((with_reducible refine x_extL (by walk_at "get") ?_ ?_); walk_at "len") | (with_reducible refine x_tupR (by walk_at "get") ?_) | (with_reducible refine x_frzR (by walk_at "get") ?_) | ((with_reducible refine x_addRL (by walk_at "get") ?_ ?_); walk_at "len") | with_reducible refine x_rixr (by first | assumption | exact wset_same) ?_ | with_reducible refine x_lenR (by first | assumption | exact wset_same) ?_ | ((with_reducible refine x_rsubc (by first | assumption | exact wset_same) ?_ ?_); (first | (focus (simp; done)) | (focus (simp; omega)))) | ((with_reducible refine x_gtup ?_ ?_); (first | rfl | (focus (simp; done)))) | ((with_reducible refine x_cI ?_ ?_); (first | exact True.intro | assumption)) | ((with_reducible refine x_cI2 ?_ ?_); (first | exact True.intro | assumption)) | ((with_reducible refine x_addL ?_ ?_); walk_at "len") | ((with_reducible refine x_addT ?_ ?_); walk_at "len") | ((with_reducible refine x_addS ?_ ?_); (first | (focus (show _ ≤ sizeLine; rw [sizeLine_eq]; simp; done)) | omega)) | ((with_reducible refine x_mod ?_ ?_); (first | omega | assumption)) | ((with_reducible refine x_fdiv ?_ ?_ ?_); (first | omega | assumption); (first | omega | assumption)) | ((with_reducible refine x_mul ?_ ?_); (first | (left; omega) | (right; omega))) | ((with_reducible refine x_pow ?_ ?_ ?_ ?_); decide; decide; decide; (try simp only [Int.reduceToNat, Int.reducePow])) | ((with_reducible refine x_and ?_ ?_); (first | (focus (show _ ≤ sizeLine; rw [sizeLine_eq]; simp; done)) | omega)) | ((with_reducible refine x_rrng1 ?_ ?_ ?_); omega; omega) | ((with_reducible refine x_iteT ?_ ?_); (first | omega | assumption)) | ((with_reducible refine x_iteF ?_ ?_); (first | omega | assumption)) | ((with_reducible refine x_iteNT ?_ ?_); (first | omega | assumption)) | ((with_reducible refine x_iteNF ?_ ?_); (first | omega | assumption)) | with_reducible refine L2.iteT ?_ | with_reducible refine L2.iteF ?_ | simp only [wset_wset] | ((with_reducible refine x_iteV ?_ ?_); focus (first | rfl | assumption)) | ((with_reducible refine x_iteW ?_ ?_); focus (first | rfl | assumption)) | ((with_reducible refine x_iteNV ?_ ?_); focus (first | rfl | assumption)) | ((with_reducible refine x_iteNW ?_ ?_); focus (first | rfl | assumption)) | ((with_reducible refine x_iteV ?_ ?_); focus (decide +kernel)) | ((with_reducible refine x_iteW ?_ ?_); focus (decide +kernel)) | ((with_reducible refine x_iteNV ?_ ?_); focus (decide +kernel)) | ((with_reducible refine x_iteNW ?_ ?_); focus (decide +kernel)) | (with_reducible refine x_ixT2 (by omega) (by omega) (fun _ => ?_) (fun _ => ?_)) | (with_reducible refine x_ixL2 (by omega) (by omega) (fun _ => ?_) (fun _ => ?_)) | (with_reducible refine x_ixT3 (by omega) (by omega) (fun _ => ?_) (fun _ => ?_) (fun _ => ?_)) | (with_reducible refine x_ixL3 (by omega) (by omega) (fun _ => ?_) (fun _ => ?_) (fun _ => ?_)) | (with_reducible refine x_ixT4 (by omega) (by omega) (fun _ => ?_) (fun _ => ?_) (fun _ => ?_) (fun _ => ?_)) | (with_reducible refine x_ixL4 (by omega) (by omega) (fun _ => ?_) (fun _ => ?_) (fun _ => ?_) (fun _ => ?_)) | (with_reducible refine x_ixT5 (by omega) (by omega) (fun _ => ?_) (fun _ => ?_) (fun _ => ?_) (fun _ => ?_) (fun _ => ?_)) | (with_reducible refine x_ixL5 (by omega) (by omega) (fun _ => ?_) (fun _ => ?_) (fun _ => ?_) (fun _ => ?_) (fun _ => ?_)) | (with_reducible refine x_ixT6 (by omega) (by omega) (fun _ => ?_) (fun _ => ?_) (fun _ => ?_) (fun _ => ?_) (fun _ => ?_) (fun _ => ?_)) | (with_reducible refine x_ixL6 (by omega) (by omega) (fun _ => ?_) (fun _ => ?_) (fun _ => ?_) (fun _ => ?_) (fun _ => ?_) (fun _ => ?_)) | (with_reducible refine x_ite (fun _ => ?_) (fun _ => ?_)) | (with_reducible refine x_iteN (fun _ => ?_) (fun _ => ?_)))))
local macro_rules | `(tactic| walk_at "frm") => `(tactic| repeat (first | assumption | exact Frm.refl _ _ | refine Frm.trans ?_ (by assumption)))
section
variable {P : Program} {w : World} {K : Frag} {mg : Str → Option Value} {base : Heap}
def qMoves : PSp := fun ds w Q => ∃ n bows t, ds = [encP n bows, .lst (t.1.map nI), .lst (t.2.map nI)] ∧ n ≤ 5 ∧ bows.length ≤ 5 ∧ Q (.lst ((movesL n (ends bows) t).map encM)) w
theorem take_one {α : Type} {xs : List α} {i : Nat} {x : α} (h : xs[i]? = some x) : xs.take (i + 1) = xs.take i ++ [x] := by
  rw [List.take_succ, h]; rfl
theorem zip_at {bows : List Bow} {i : Nat} {b : Bow} (h : bows[i]? = some b) : (ends bows).zipIdx[i]? = some (b.1, i) := by
  simp [ends, List.getElem?_zipIdx, h]
def upTo (bows : List Bow) (i : Nat) (z : Str) (p : Nat → Nat × Nat → Bool) : List Mv := (((ends bows).zipIdx.take i).filter fun x => p x.2 x.1).map fun x => (z, x.2)
theorem up_all (bows : List Bow) (z : Str) (p : Nat → Nat × Nat → Bool) : upTo bows bows.length z p = bowsOf (ends bows) z p := by
  unfold upTo bowsOf
  rw [List.take_of_length_le (by simp [ends])]
theorem up_succ {bows : List Bow} {i : Nat} {b : Bow} (h : bows[i]? = some b) (z : Str) (p : Nat → Nat × Nat → Bool) : upTo bows (i + 1) z p = upTo bows i z p ++ (if p i b.1 = true then [(z, i)] else []) := by
  unfold upTo
  rw [take_one (zip_at h), List.filter_append, List.map_append]
  congr 1
  by_cases c : p i b.1 = true
  · rw [if_pos c]; simp [List.filter_cons, c]
  · rw [if_neg c]; simp [List.filter_cons, c]
theorem up_len (bows : List Bow) (i : Nat) (z : Str) (p : Nat → Nat × Nat → Bool) : (upTo bows i z p).length ≤ bows.length := by
  unfold upTo
  rw [List.length_map]
  refine Nat.le_trans (List.length_filter_le _ _) ?_
  rw [List.length_take]; simp [ends]; omega
theorem bows_len (bows : List Bow) (z : Str) (p : Nat → Nat × Nat → Bool) : (bowsOf (ends bows) z p).length ≤ bows.length := by
  rw [← up_all]; exact up_len ..
abbrev pBk (t : Ls) : Nat → Nat × Nat → Bool := fun k b => !decide (k ∈ t.2) && (!decide (b.1 ∈ t.1) && decide (b.2 ∈ t.1))
abbrev pFo (t : Ls) : Nat → Nat × Nat → Bool := fun k b => !decide (k ∈ t.2) && (decide (b.1 ∈ t.1) && !decide (b.2 ∈ t.1))
abbrev pMe (t : Ls) : Nat → Nat × Nat → Bool := fun k b => !decide (k ∈ t.2) && (decide (b.1 ∈ t.1) && decide (b.2 ∈ t.1))
def lays (n : Nat) (t : Ls) : List Mv := ((List.range n).filter fun i => !decide (i ∈ t.1)).map (fun i => (("lay" : Str), i))
theorem comp_nums {n : Nat} {g : WG} {tt : WT} {te : WE} {ρ : Sl} {k : List PV → Wd → Prop} {w : Wd} (p : Nat → Bool) (f : Nat → PV) (ht : ∀ i, i < n → ∀ N : List PV → Wd → Prop, ∀ acc, N (if p i = true then acc ++ [f i] else acc) w → g (.int i) ρ w fun ρ1 w1 => tt ρ1 w1 fun b w2 => if b = true then te ρ1 w2 fun y w3 => N (acc ++ [y]) w3 else N acc w2)
    (h : k (((List.range n).filter p).map f) w) : compD g tt te ρ k (nums 0 n) [] w := by
  have key : ∀ (m i : Nat), i + m = n → ∀ acc, k (acc ++ (((List.range' i m).filter p).map f)) w → compD g tt te ρ k ((List.range' i m).map fun (j : Nat) => PV.int (0 + j)) acc w := by
    intro m
    induction m with
    | zero => intro i _ acc h; simpa [compD] using h
    | succ m ih =>
      intro i e acc h
      rw [List.range'_succ, List.map_cons]
      simp only [compD]
      rw [show (0 : Int) + (i : Nat) = (i : Nat) by omega]
      refine ht i (by omega) _ acc ?_
      refine ih (i + 1) (by omega) _ ?_
      rw [List.range'_succ, List.filter_cons] at h
      by_cases c : p i = true
      · rw [if_pos c] at h ⊢; simpa using h
      · rw [if_neg c] at h ⊢; exact h
  unfold nums
  rw [List.range_eq_range']
  exact key n 0 (by omega) [] (by rw [← List.range_eq_range']; simpa using h)
local macro_rules | `(tactic| walk_at "call") => `(tactic| first | with_reducible refine x_inI (by assumption) ?_ | with_reducible refine x_ninI (by assumption) ?_)
theorem ok_moves (T : Tx K mg) : FD P w K mg base "_law_moves" 1 qMoves := fd__law_moves T (by rintro ds w Q ⟨n, b, t, rfl, _⟩; rfl) (by
  rintro d0 d1 d2 w' Q ⟨n, bows, t, e, hn, hb, h⟩
  cases e
  unfold rd__law_moves encP
  walk_at "go"
  intro p hp
  have hp1 : wset w' p (.lst []) p = some (.lst ((upTo bows 0 "back" (pBk t)).map encM)) := wset_same
  have hf1 : ∀ b, b ≠ p → wset w' p (.lst []) b = w' b := fun b hb => wset_ne hb
  generalize wset w' p (.lst []) = w1 at hp1 hf1
  walk_at "go"
  refine x_forC ?_
  walk_at "go"
  refine for_enum encB bows (fun i ρ w2 => ∃ o6 o7, ρ = [some (.tup [.tup (List.replicate n spot0), .tup (bows.map encB), .tup []]), some (.lst (t.1.map nI)), some (.lst (t.2.map nI)), some (.ref p), some (.str "back"), some (.tup [.int 0, .int 1]), o6, o7, none] ∧ w2 p = some (.lst ((upTo bows i "back" (pBk t)).map encM)) ∧ ∀ b, b ≠ p → w2 b = w' b) ?_ ?_ ⟨_, _, rfl, hp1, hf1⟩
  rotate_left
  · rintro i ⟨⟨b1, b2⟩, s1, s2⟩ ρ w2 N hx hN ⟨o6, o7, rfl, hq, hf⟩
    have hu := up_len bows i "back" (pBk t)
    have hs := up_succ hx "back" (pBk t)
    simp only at hs
    simp only [encB]
    cases e0 : decide (i ∈ t.2) <;> cases e1 : decide (b1 ∈ t.1) <;> cases e2 : decide (b2 ∈ t.1) <;> (walk_at "go"; refine hN _ _ ⟨_, _, rfl, ?_, ?_⟩ <;> first | exact hf | (intro b hb; rw [wset_ne hb]; exact hf b hb) | (simp only [hs, pBk, pFo, pMe, e0, e1, e2, Bool.not_false, Bool.not_true, Bool.and_true, Bool.true_and, Bool.and_false, Bool.false_and, Bool.false_eq_true, if_true, if_false, List.append_nil, List.map_append, List.map_cons, List.map_nil, encM, List.append_assoc] at hq ⊢; first | exact hq | exact wset_same))
  rintro ρ w2 ⟨o6, o7, rfl, hp2, hf2⟩
  rw [up_all] at hp2
  have l2 := bows_len bows "back" (pBk t)
  dsimp only
  refine x_forC ?_
  walk_at "go"
  have hp3 : w2 p = some (.lst ((bowsOf (ends bows) "back" (pBk t) ++ upTo bows 0 "forth" (pFo t)).map encM)) := by rw [hp2]; simp [upTo]
  refine for_enum encB bows (fun i ρ w2 => ∃ o6 o7, ρ = [some (.tup [.tup (List.replicate n spot0), .tup (bows.map encB), .tup []]), some (.lst (t.1.map nI)), some (.lst (t.2.map nI)), some (.ref p), some (.str "forth"), some (.tup [.int 1, .int 0]), o6, o7, none] ∧ w2 p = some (.lst ((bowsOf (ends bows) "back" (pBk t) ++ upTo bows i "forth" (pFo t)).map encM)) ∧ ∀ b, b ≠ p → w2 b = w' b) ?_ ?_ ⟨_, _, rfl, hp3, hf2⟩
  rotate_left
  · rintro i ⟨⟨b1, b2⟩, s1, s2⟩ ρ w2 N hx hN ⟨o6, o7, rfl, hq, hf⟩
    have hu := up_len bows i "forth" (pFo t)
    have hs := up_succ hx "forth" (pFo t)
    simp only at hs
    simp only [encB]
    cases e0 : decide (i ∈ t.2) <;> cases e1 : decide (b1 ∈ t.1) <;> cases e2 : decide (b2 ∈ t.1) <;> (walk_at "go"; refine hN _ _ ⟨_, _, rfl, ?_, ?_⟩ <;> first | exact hf | (intro b hb; rw [wset_ne hb]; exact hf b hb) | (simp only [hs, pBk, pFo, pMe, e0, e1, e2, Bool.not_false, Bool.not_true, Bool.and_true, Bool.true_and, Bool.and_false, Bool.false_and, Bool.false_eq_true, if_true, if_false, List.append_nil, List.map_append, List.map_cons, List.map_nil, encM, List.append_assoc] at hq ⊢; first | exact hq | exact wset_same))
  rintro ρ w4 ⟨o6, o7, rfl, hp4, hf4⟩
  rw [up_all] at hp4
  have l4 := bows_len bows "forth" (pFo t)
  dsimp only
  refine x_forN ?_
  walk_at "go"
  rw [List.length_replicate]
  walk_at "go"
  rw [show ((n : Nat) : Int).toNat = n by omega]
  refine x_and (by rw [sizeLine_eq, nums_length]; omega) ?_
  refine comp_nums (fun i => !decide (i ∈ t.1)) (fun i => encM (("lay" : Str), i)) (fun i hi N acc q => ?_) ?_
  · dsimp only [wipeD, List.set]
    cases e0 : decide (i ∈ t.1) <;> (walk_at "go"; simpa [e0, encM] using q)
  have l5 : (lays n t).length ≤ n := by
    unfold lays; rw [List.length_map]; exact Nat.le_trans (List.length_filter_le _ _) (by simp)
  have l6 : (((List.range n).filter fun i => !decide (i ∈ t.1)).map fun i => encM (("lay" : Str), i)).length ≤ n := by
    rw [List.length_map]; exact Nat.le_trans (List.length_filter_le _ _) (by simp)
  have e6 : ((List.range n).filter fun i => !decide (i ∈ t.1)).map (fun i => encM (("lay" : Str), i)) = (lays n t).map encM := by
    unfold lays; rw [List.map_map]; rfl
  rw [e6]
  walk_at "go"
  have hp7 : wset w4 p (.lst ((bowsOf (ends bows) "back" (pBk t) ++ bowsOf (ends bows) "forth" (pFo t)).map encM ++ (lays n t).map encM)) p = some (.lst ((((bowsOf (ends bows) "back" (pBk t) ++ bowsOf (ends bows) "forth" (pFo t)) ++ lays n t) ++ upTo bows 0 "meet" (pMe t)).map encM)) := by
    rw [wset_same]; simp [upTo]
  refine for_enum encB bows (fun i ρ w2 => ∃ o6 o7, ρ = [some (.tup [.tup (List.replicate n spot0), .tup (bows.map encB), .tup []]), some (.lst (t.1.map nI)), some (.lst (t.2.map nI)), some (.ref p), some (.str "forth"), some (.tup [.int 1, .int 0]), o6, o7, none] ∧ w2 p = some (.lst ((((bowsOf (ends bows) "back" (pBk t) ++ bowsOf (ends bows) "forth" (pFo t)) ++ lays n t) ++ upTo bows i "meet" (pMe t)).map encM)) ∧ ∀ b, b ≠ p → w2 b = w' b) ?_ ?_ ⟨_, _, rfl, hp7, fun b hb => by rw [wset_ne hb]; exact hf4 b hb⟩
  rotate_left
  · rintro i ⟨⟨b1, b2⟩, s1, s2⟩ ρ w2 N hx hN ⟨o6, o7, rfl, hq, hf⟩
    have hu := up_len bows i "meet" (pMe t)
    have hs := up_succ hx "meet" (pMe t)
    simp only at hs
    simp only [encB]
    cases e0 : decide (i ∈ t.2) <;> cases e1 : decide (b1 ∈ t.1) <;> cases e2 : decide (b2 ∈ t.1) <;> (walk_at "go"; refine hN _ _ ⟨_, _, rfl, ?_, ?_⟩ <;> first | exact hf | (intro b hb; rw [wset_ne hb]; exact hf b hb) | (simp only [hs, pBk, pFo, pMe, e0, e1, e2, Bool.not_false, Bool.not_true, Bool.and_true, Bool.true_and, Bool.and_false, Bool.false_and, Bool.false_eq_true, if_true, if_false, List.append_nil, List.map_append, List.map_cons, List.map_nil, encM, List.append_assoc] at hq ⊢; first | exact hq | exact wset_same))
  rintro ρ w8 ⟨o6, o7, rfl, hp8, hf8⟩
  rw [up_all] at hp8
  walk_at "go"
  have : wdel w8 p = w' := by
    funext b; unfold wdel
    split
    · rename_i e; rw [e, hp]
    · rename_i e; exact hf8 b e
  rw [this]
  exact h)
def qBeh : PSp := fun ds w Q => ∃ n bows t m, ds = [encP n bows, .lst (t.1.map nI), .lst (t.2.map nI), encM m] ∧ (m.1 ≠ "lay" → m.2 < bows.length) ∧ t.1.length ≤ 100 ∧ t.2.length ≤ 100 ∧ Q (.tup [.lst ((behL (ends bows) t m).1.map nI), .lst ((behL (ends bows) t m).2.map nI)]) w
theorem bow_at {bows : List Bow} {k : Nat} (h : k < bows.length) : ∃ b1 b2 s1 s2, atI (bows.map encB) (k : Int) = some (.tup [.int (b1 : Nat), .int (b2 : Nat), s1, s2]) ∧ (ends bows).getD k (0, 0) = (b1, b2) := by
  rcases hb : bows[k] with ⟨⟨b1, b2⟩, s1, s2⟩
  refine ⟨b1, b2, s1, s2, atI_nat ?_, ?_⟩
  · simp [h, hb, encB]
  · rw [List.getD_eq_getElem?_getD]; simp [ends, h, hb]
local macro_rules | `(tactic| walk_at "call") => `(tactic| first | with_reducible refine x_ixT (by assumption) ?_)
theorem ok_beh (T : Tx K mg) : FD P w K mg base "_law_behind" 1 qBeh := fd__law_behind T (by rintro ds w Q ⟨n, b, t, m, rfl, _⟩; rfl) (by
  rintro d0 d1 d2 d3 w' Q ⟨n, bows, ⟨sp, bw⟩, ⟨z, k⟩, e, hm, h1, h2, h⟩
  cases e
  unfold rd__law_behind encP encM
  simp only [behL] at h h1 h2
  by_cases c1 : z = "lay"
  · subst c1
    simp only [if_true] at h
    walk_at "go"
    simpa [nI] using h
  · obtain ⟨b1, b2, s1, s2, hb, hd⟩ := bow_at (hm c1)
    simp only [hd, if_neg c1] at h
    by_cases c2 : z = "forth"
    · subst c2
      simp only [if_true] at h
      walk_at "go"
      simpa [nI] using h
    · by_cases c3 : z = "back"
      · subst c3
        simp only [if_neg c2, if_true] at h
        walk_at "go"
        simpa [nI] using h
      · simp only [if_neg c2, if_neg c3] at h
        walk_at "go"
        simpa [nI] using h)
end
end Lw

namespace Lw
open PySem L2 Pd Pl
local macro_rules | `(tactic| walk_at "get") => `(tactic| repeat (first | assumption | exact wset_same | refine Frm.get (by assumption) (by assumption) ?_ | refine wset_get (by assumption) ?_))
local macro_rules | `(tactic| walk_at "len") => `(tactic| focus (first | (rw [sizeLine_eq]; (try simp only [List.length_append, List.length_cons, List.length_nil, List.length_map, List.length_replicate, List.length_reverse]); omega) | (rw [sizeLine_eq]; simp; done) | omega))
local macro_rules | `(tactic| walk_at "call") => `(tactic| fail "none")
local macro_rules | `(tactic| walk_at "go") => `(tactic| (repeat (first | with_reducible refine Stp.go ?_ | dsimp only [List.set] | (walk_at "call") | (with_reducible refine x_rixMiss (by decide) ?_) | (with_reducible refine x_isM (by walk_at "get") ?_) | ((with_reducible refine x_app (by walk_at "get") ?_ ?_); walk_at "len") | ((with_reducible refine x_extL (by walk_at "get") ?_ ?_); walk_at "len") | (with_reducible refine x_tupR (by walk_at "get") ?_) | (with_reducible refine x_frzR (by walk_at "get") ?_) | ((with_reducible refine x_addRL (by walk_at "get") ?_ ?_); walk_at "len") | with_reducible refine x_rixr (by first | assumption | exact wset_same) ?_ | with_reducible refine x_lenR (by first | assumption | exact wset_same) ?_ | ((with_reducible refine x_rsubc (by first | assumption | exact wset_same) ?_ ?_); (first | (focus (simp; done)) | (focus (simp; omega)))) | ((with_reducible refine x_gtup ?_ ?_); (first | rfl | (focus (simp; done)))) | ((with_reducible refine x_cI ?_ ?_); (first | exact True.intro | assumption)) | ((with_reducible refine x_cI2 ?_ ?_); (first | exact True.intro | assumption)) | ((with_reducible refine x_addL ?_ ?_); walk_at "len") | ((with_reducible refine x_addT ?_ ?_); walk_at "len") | ((with_reducible refine x_addS ?_ ?_); (first | (focus (show _ ≤ sizeLine; rw [sizeLine_eq]; simp; done)) | omega)) | ((with_reducible refine x_mod ?_ ?_); (first | omega | assumption)) | ((with_reducible refine x_fdiv ?_ ?_ ?_); (first | omega | assumption); (first | omega | assumption)) | ((with_reducible refine x_mul ?_ ?_); (first | (left; omega) | (right; omega))) | ((with_reducible refine x_pow ?_ ?_ ?_ ?_); decide; decide; decide; (try simp only [Int.reduceToNat, Int.reducePow])) | ((with_reducible refine x_and ?_ ?_); (first | (focus (show _ ≤ sizeLine; rw [sizeLine_eq]; simp; done)) | omega)) | ((with_reducible refine x_rrng1 ?_ ?_ ?_); omega; omega) | ((with_reducible refine x_iteT ?_ ?_); (first | omega | assumption)) | ((with_reducible refine x_iteF ?_ ?_); (first | omega | assumption)) | ((with_reducible refine x_iteNT ?_ ?_); (first | omega | assumption)) | ((with_reducible refine x_iteNF ?_ ?_); (first | omega | assumption)) | with_reducible refine L2.iteT ?_ | with_reducible refine L2.iteF ?_ | simp only [wset_wset] | ((with_reducible refine x_iteV ?_ ?_); focus (first | rfl | assumption)) | ((with_reducible refine x_iteW ?_ ?_); focus (first | rfl | assumption)) | ((with_reducible refine x_iteNV ?_ ?_); focus (first | rfl | assumption)) | ((with_reducible refine x_iteNW ?_ ?_); focus (first | rfl | assumption)) | ((with_reducible refine x_iteV ?_ ?_); focus (decide +kernel)) | ((with_reducible refine x_iteW ?_ ?_); focus (decide +kernel)) | ((with_reducible refine x_iteNV ?_ ?_); focus (decide +kernel)) | ((with_reducible refine x_iteNW ?_ ?_); focus (decide +kernel)))))
local macro_rules | `(tactic| walk_at "gos") => `(tactic| (repeat' (first | with_reducible refine Stp.go ?_ | dsimp only [List.set] | (walk_at "call") | (with_reducible refine x_rixMiss (by decide) ?_) | (with_reducible refine x_isM (by walk_at "get") ?_) | ((with_reducible refine x_app (by walk_at "get") ?_ ?_); walk_at "len") | ((with_reducible refine x_extL (by walk_at "get") ?_ ?_); walk_at "len") | (with_reducible refine x_tupR (by walk_at "get") ?_) | (with_reducible refine x_frzR (by walk_at "get") ?_) | ((with_reducible refine x_addRL (by walk_at "get") ?_ ?_); walk_at "len") | with_reducible refine x_rixr (by first | assumption | exact wset_same) ?_ | with_reducible refine x_lenR (by first | assumption | exact wset_same) ?_ | ((with_reducible refine x_rsubc (by first | assumption | exact wset_same) ?_ ?_); (first | (focus (simp; done)) | (focus (simp; omega)))) | ((with_reducible refine x_gtup ?_ ?_); (first | rfl | (focus (simp; done)))) | ((with_reducible refine x_cI ?_ ?_); (first | exact True.intro | assumption)) | ((with_reducible refine x_cI2 ?_ ?_); (first | exact True.intro | assumption)) | ((with_reducible refine x_addL ?_ ?_); walk_at "len") | ((with_reducible refine x_addT ?_ ?_); walk_at "len") | ((with_reducible refine x_addS ?_ ?_); (first | (focus (show _ ≤ sizeLine; rw [sizeLine_eq]; simp; done)) | omega)) | ((with_reducible refine x_mod ?_ ?_); (first | omega | assumption)) | ((with_reducible refine x_fdiv ?_ ?_ ?_); (first | omega | assumption); (first | omega | assumption)) | ((with_reducible refine x_mul ?_ ?_); (first | (left; omega) | (right; omega))) | ((with_reducible refine x_pow ?_ ?_ ?_ ?_); decide; decide; decide; (try simp only [Int.reduceToNat, Int.reducePow])) | ((with_reducible refine x_and ?_ ?_); (first | (focus (show _ ≤ sizeLine; rw [sizeLine_eq]; simp; done)) | omega)) | ((with_reducible refine x_rrng1 ?_ ?_ ?_); omega; omega) | ((with_reducible refine x_iteT ?_ ?_); (first | omega | assumption)) | ((with_reducible refine x_iteF ?_ ?_); (first | omega | assumption)) | ((with_reducible refine x_iteNT ?_ ?_); (first | omega | assumption)) | ((with_reducible refine x_iteNF ?_ ?_); (first | omega | assumption)) | with_reducible refine L2.iteT ?_ | with_reducible refine L2.iteF ?_ | simp only [wset_wset] | ((with_reducible refine x_iteV ?_ ?_); focus (first | rfl | assumption)) | ((with_reducible refine x_iteW ?_ ?_); focus (first | rfl | assumption)) | ((with_reducible refine x_iteNV ?_ ?_); focus (first | rfl | assumption)) | ((with_reducible refine x_iteNW ?_ ?_); focus (first | rfl | assumption)) | ((with_reducible refine x_iteV ?_ ?_); focus (decide +kernel)) | ((with_reducible refine x_iteW ?_ ?_); focus (decide +kernel)) | ((with_reducible refine x_iteNV ?_ ?_); focus (decide +kernel)) | ((with_reducible refine x_iteNW ?_ ?_); focus (decide +kernel)) | (with_reducible refine x_ixT2 (by omega) (by omega) (fun _ => ?_) (fun _ => ?_)) | (with_reducible refine x_ixL2 (by omega) (by omega) (fun _ => ?_) (fun _ => ?_)) | (with_reducible refine x_ixT3 (by omega) (by omega) (fun _ => ?_) (fun _ => ?_) (fun _ => ?_)) | (with_reducible refine x_ixL3 (by omega) (by omega) (fun _ => ?_) (fun _ => ?_) (fun _ => ?_)) | (with_reducible refine x_ixT4 (by omega) (by omega) (fun _ => ?_) (fun _ => ?_) (fun _ => ?_) (fun _ => ?_)) | (with_reducible refine x_ixL4 (by omega) (by omega) (fun _ => ?_) (fun _ => ?_) (fun _ => ?_) (fun _ => ?_)) | (with_reducible refine x_ixT5 (by omega) (by omega) (fun _ => ?_) (fun _ => ?_) (fun _ => ?_) (fun _ => ?_) (fun _ => ?_)) | (with_reducible refine x_ixL5 (by omega) (by omega) (fun _ => ?_) (fun _ => ?_) (fun _ => ?_) (fun _ => ?_) (fun _ => ?_)) | (with_reducible refine x_ixT6 (by omega) (by omega) (fun _ => ?_) (fun _ => ?_) (fun _ => ?_) (fun _ => ?_) (fun _ => ?_) (fun _ => ?_)) | (with_reducible refine x_ixL6 (by omega) (by omega) (fun _ => ?_) (fun _ => ?_) (fun _ => ?_) (fun _ => ?_) (fun _ => ?_) (fun _ => ?_)) | (with_reducible refine x_ite (fun _ => ?_) (fun _ => ?_)) | (with_reducible refine x_iteN (fun _ => ?_) (fun _ => ?_)))))
local macro_rules | `(tactic| walk_at "frm") => `(tactic| repeat (first | assumption | exact Frm.refl _ _ | refine Frm.trans ?_ (by assumption)))
section
variable {P : Program} {w : World} {K : Frag} {mg : Str → Option Value} {base : Heap}
def qPlan : PSp := fun ds w Q => ∃ a F n bows, ds = [.ref a, encP n bows] ∧ Hnd w a F ∧ 20 ≤ F ∧ PatOk n (ends bows) ∧ ∀ ms u w', Run n (ends bows) ([], []) ms u → movesL n (ends bows) u = [] → Hnd w' a (F - 20) → Frm a w w' → Q (.lst (ms.map encM)) w'
theorem moves_len {n : Nat} {bows : List Bow} {t : Ls} (hn : n ≤ 5) (hb : bows.length ≤ 5) : (movesL n (ends bows) t).length ≤ 20 := by
  unfold movesL
  have h1 := bows_len bows "back" (fun k b => !decide (k ∈ t.2) && (!decide (b.1 ∈ t.1) && decide (b.2 ∈ t.1)))
  have h2 := bows_len bows "forth" (fun k b => !decide (k ∈ t.2) && (decide (b.1 ∈ t.1) && !decide (b.2 ∈ t.1)))
  have h3 := bows_len bows "meet" (fun k b => !decide (k ∈ t.2) && (decide (b.1 ∈ t.1) && decide (b.2 ∈ t.1)))
  have h4 : (((List.range n).filter fun i => !decide (i ∈ t.1)).map (fun i => (("lay" : Str), i))).length ≤ n := by
    rw [List.length_map]; exact Nat.le_trans (List.length_filter_le _ _) (by simp)
  simp only [List.length_append]
  omega
theorem encM_pls : ∀ ms : List Mv, PV.pls (ms.map encM) = true
  | [] => rfl
  | m :: r => by simp [PV.pls, PV.pl, encM]; exact encM_pls r
theorem encM_deps : ∀ ms : List Mv, PV.deps (ms.map encM) ≤ 1
  | [] => by simp [PV.deps]
  | m :: r => by have := encM_deps r; simp [PV.deps, PV.dep, encM]; omega
theorem ne_nil {ms : List Mv} : (!PV.eqb (.lst (ms.map encM)) (.lst [])) = !ms.isEmpty := by
  cases ms <;> simp [PV.eqb, PV.eqbs]
theorem mv_lt {n : Nat} {bows : List Bow} {t : Ls} {m : Mv} (h : m ∈ movesL n (ends bows) t) : m.1 ≠ "lay" → m.2 < bows.length := fun ne => by
  rcases mem_moves.mp h with ⟨e, _⟩ | ⟨b, h1, _⟩
  · exact absurd e ne
  · have := (getD_lt h1).1
    simpa [ends] using this
theorem atI_last {α : Type} (xs : List α) (x : α) : atI (xs ++ [x]) (-1) = some x := by
  unfold atI ixN
  rw [if_neg (by omega), if_pos (by simp; omega)]
  have : (-1 + ((xs ++ [x]).length : Int)).toNat = xs.length := by simp; omega
  rw [this]; simp
local macro_rules | `(tactic| walk_at "call") => `(tactic| first | with_reducible refine x_take (by assumption) (by omega) (by omega) (by omega) (fun _ _ _ _ _ _ => ?_))
theorem ok_plan (T : Tx K mg) : FD P w K mg base "_law_plan" 2 qPlan := fd__law_plan T (ok_moves T) (Nat.le_refl _) (ok_beh T) (Nat.le_refl _) (ok_take T) (Nat.le_refl _) (by rintro ds w Q ⟨a, F, n, b, rfl, _⟩; rfl) (by
  rintro d0 d1 w' Q ⟨a, F, n, bows, e, hH, hF, po, h⟩
  cases e
  have hb5 : bows.length ≤ 5 := by simpa [ends] using po.m5
  have hn5 := po.n5
  unfold rd__law_plan
  walk_at "go"
  intro p hp
  walk_at "go"
  refine ⟨n, bows, ([], []), rfl, hn5, hb5, ?_⟩
  walk_at "go"
  have np := hH.off hp
  refine x_while 11 (wh_ind (fun m ρ w2 => ∃ ms u G, ρ = [some (.ref a), some (encP n bows), some (.ref p), some (.lst (u.1.map nI)), some (.lst (u.2.map nI)), some (.lst ((movesL n (ends bows) u).map encM))] ∧ Run n (ends bows) ([], []) ms u ∧ left n (ends bows) u < m ∧ w2 p = some (.lst (ms.map encM)) ∧ Hnd w2 a G ∧ m + F ≤ G + 11 ∧ G ≤ F ∧ ∀ b, b ≠ p → b ≠ a → w2 b = w' b) ?_ ?_ _ _ _ ⟨[], ([], []), F, rfl, .nil _, ?_, wset_same, hH.set np, by omega, Nat.le_refl _, fun b h1 _ => wset_ne h1⟩)
  · rintro ρ w2 ⟨ms, u, G, _, _, h0, _⟩; omega
  · rintro m ρ w2 N hN ⟨ms, u, G, rfl, hr, hl, hp2, hH2, hG, hGF, hf⟩
    have ml := moves_len (t := u) hn5 hb5
    have rl := run_len po hr
    have rl2 : (ends bows).length ≤ 5 := po.m5
    walk_at "go"
    refine x_ne (by simp [PV.pl, encM_pls]) (by simp [PV.pl, PV.pls]) (by have := encM_deps (movesL n (ends bows) u); simp [PV.dep]; omega) ?_
    rw [ne_nil]
    cases em : movesL n (ends bows) u with
    | nil =>
      walk_at "go"
      refine h ms u _ hr em ((hH2.del np).le (by omega)) fun b hb => ?_
      unfold wdel
      split
      · rename_i e; rw [e, hp]
      · rename_i e; exact hf b e hb
    | cons m0 mr =>
      rw [← em]
      have hne : 1 ≤ (movesL n (ends bows) u).length := by rw [em]; simp
      have hml : ((movesL n (ends bows) u).map encM).length = (movesL n (ends bows) u).length := List.length_map ..
      refine x_iteV (show (!(movesL n (ends bows) u).isEmpty) = true by rw [em]; rfl) ?_
      walk_at "go"
      rename_i i1 w3 g1 g2 hH3 f3
      obtain ⟨d, hd, hm⟩ := atI_lt (xs := (movesL n (ends bows) u).map encM) (i := i1) (by omega) (by simpa using g2)
      obtain ⟨mv, hmv, rfl⟩ := List.mem_map.mp hm
      refine x_ixL hd ?_
      obtain ⟨st, ag⟩ := run_ag po hr
      have q1 := ag_le ag.a1
      have q2 := ag_le ag.a2
      rw [ag.l1] at q1; rw [ag.l2] at q2
      walk_at "go"
      refine x_ixR wset_same (atI_last _ _) ?_
      walk_at "go"
      refine ⟨n, bows, u, mv, rfl, mv_lt hmv, by omega, by omega, ?_⟩
      walk_at "go"
      refine ⟨n, bows, behL (ends bows) u mv, rfl, hn5, hb5, ?_⟩
      walk_at "go"
      have ll := left_lt po hr hmv
      exact hN _ _ ⟨ms ++ [mv], behL (ends bows) u mv, G - 1, rfl, .snoc hr hmv, by omega, by rw [wset_same]; simp, hH3.set np, by omega, by omega, fun b h1 h2 => by rw [wset_ne h1, f3 b h2]; exact hf b h1 h2⟩
  · have := po.m5; simp only [left, List.length_nil]; omega)
end
end Lw

namespace Lw
open PySem L2 Pd Pl
local macro_rules | `(tactic| walk_at "get") => `(tactic| repeat (first | assumption | exact wset_same | refine Frm.get (by assumption) (by assumption) ?_ | refine wset_get (by assumption) ?_))
local macro_rules | `(tactic| walk_at "len") => `(tactic| focus (first | (rw [sizeLine_eq]; (try simp only [List.length_append, List.length_cons, List.length_nil, List.length_map, List.length_replicate, List.length_reverse]); omega) | (rw [sizeLine_eq]; simp; done) | omega))
local macro_rules | `(tactic| walk_at "call") => `(tactic| fail "none")
local macro_rules | `(tactic| walk_at "go") => `(tactic| (repeat (first | with_reducible refine Stp.go ?_ | dsimp only [List.set] | (walk_at "call") | (with_reducible refine x_rixMiss (by decide) ?_) | (with_reducible refine x_isM (by walk_at "get") ?_) | ((with_reducible refine x_app (by walk_at "get") ?_ ?_); walk_at "len") | ((with_reducible refine x_extL (by walk_at "get") ?_ ?_); walk_at "len") | (with_reducible refine x_tupR (by walk_at "get") ?_) | (with_reducible refine x_frzR (by walk_at "get") ?_) | ((with_reducible refine x_addRL (by walk_at "get") ?_ ?_); walk_at "len") | with_reducible refine x_rixr (by first | assumption | exact wset_same) ?_ | with_reducible refine x_lenR (by first | assumption | exact wset_same) ?_ | ((with_reducible refine x_rsubc (by first | assumption | exact wset_same) ?_ ?_); (first | (focus (simp; done)) | (focus (simp; omega)))) | ((with_reducible refine x_gtup ?_ ?_); (first | rfl | (focus (simp; done)))) | ((with_reducible refine x_cI ?_ ?_); (first | exact True.intro | assumption)) | ((with_reducible refine x_cI2 ?_ ?_); (first | exact True.intro | assumption)) | ((with_reducible refine x_addL ?_ ?_); walk_at "len") | ((with_reducible refine x_addT ?_ ?_); walk_at "len") | ((with_reducible refine x_addS ?_ ?_); (first | (focus (show _ ≤ sizeLine; rw [sizeLine_eq]; simp; done)) | omega)) | ((with_reducible refine x_mod ?_ ?_); (first | omega | assumption)) | ((with_reducible refine x_fdiv ?_ ?_ ?_); (first | omega | assumption); (first | omega | assumption)) | ((with_reducible refine x_mul ?_ ?_); (first | (left; omega) | (right; omega))) | ((with_reducible refine x_pow ?_ ?_ ?_ ?_); decide; decide; decide; (try simp only [Int.reduceToNat, Int.reducePow])) | ((with_reducible refine x_and ?_ ?_); (first | (focus (show _ ≤ sizeLine; rw [sizeLine_eq]; simp; done)) | omega)) | ((with_reducible refine x_rrng1 ?_ ?_ ?_); omega; omega) | ((with_reducible refine x_iteT ?_ ?_); (first | omega | assumption)) | ((with_reducible refine x_iteF ?_ ?_); (first | omega | assumption)) | ((with_reducible refine x_iteNT ?_ ?_); (first | omega | assumption)) | ((with_reducible refine x_iteNF ?_ ?_); (first | omega | assumption)) | with_reducible refine L2.iteT ?_ | with_reducible refine L2.iteF ?_ | simp only [wset_wset] | ((with_reducible refine x_iteV ?_ ?_); focus (first | rfl | assumption)) | ((with_reducible refine x_iteW ?_ ?_); focus (first | rfl | assumption)) | ((with_reducible refine x_iteNV ?_ ?_); focus (first | rfl | assumption)) | ((with_reducible refine x_iteNW ?_ ?_); focus (first | rfl | assumption)) | ((with_reducible refine x_iteV ?_ ?_); focus (decide +kernel)) | ((with_reducible refine x_iteW ?_ ?_); focus (decide +kernel)) | ((with_reducible refine x_iteNV ?_ ?_); focus (decide +kernel)) | ((with_reducible refine x_iteNW ?_ ?_); focus (decide +kernel)))))
local macro_rules | `(tactic| walk_at "gos") => `(tactic| (repeat' (first | with_reducible refine Stp.go ?_ | dsimp only [List.set] | (walk_at "call") | (with_reducible refine x_rixMiss (by decide) ?_) | (with_reducible refine x_isM (by walk_at "get") ?_) | ((with_reducible refine x_app (by walk_at "get") ?_ ?_); walk_at "len") | ((with_reducible refine x_extL (by walk_at "get") ?_ ?_); walk_at "len") | (with_reducible refine x_tupR (by walk_at "get") ?_) | (with_reducible refine x_frzR (by walk_at "get") ?_) | ((with_reducible refine x_addRL (by walk_at "get") ?_ ?_); walk_at "len") | with_reducible refine x_rixr (by first | assumption | exact wset_same) ?_ | with_reducible refine x_lenR (by first | assumption | exact wset_same) ?_ | ((with_reducible refine x_rsubc (by first | assumption | exact wset_same) ?_ ?_); (first | (focus (simp; done)) | (focus (simp; omega)))) | ((with_reducible refine x_gtup ?_ ?_); (first | rfl | (focus (simp; done)))) | ((with_reducible refine x_cI ?_ ?_); (first | exact True.intro | assumption)) | ((with_reducible refine x_cI2 ?_ ?_); (first | exact True.intro | assumption)) | ((with_reducible refine x_addL ?_ ?_); walk_at "len") | ((with_reducible refine x_addT ?_ ?_); walk_at "len") | ((with_reducible refine x_addS ?_ ?_); (first | (focus (show _ ≤ sizeLine; rw [sizeLine_eq]; simp; done)) | omega)) | ((with_reducible refine x_mod ?_ ?_); (first | omega | assumption)) | ((with_reducible refine x_fdiv ?_ ?_ ?_); (first | omega | assumption); (first | omega | assumption)) | ((with_reducible refine x_mul ?_ ?_); (first | (left; omega) | (right; omega))) | ((with_reducible refine x_pow ?_ ?_ ?_ ?_); decide; decide; decide; (try simp only [Int.reduceToNat, Int.reducePow])) | ((with_reducible refine x_and ?_ ?_); (first | (focus (show _ ≤ sizeLine; rw [sizeLine_eq]; simp; done)) | omega)) | ((with_reducible refine x_rrng1 ?_ ?_ ?_); omega; omega) | ((with_reducible refine x_iteT ?_ ?_); (first | omega | assumption)) | ((with_reducible refine x_iteF ?_ ?_); (first | omega | assumption)) | ((with_reducible refine x_iteNT ?_ ?_); (first | omega | assumption)) | ((with_reducible refine x_iteNF ?_ ?_); (first | omega | assumption)) | with_reducible refine L2.iteT ?_ | with_reducible refine L2.iteF ?_ | simp only [wset_wset] | ((with_reducible refine x_iteV ?_ ?_); focus (first | rfl | assumption)) | ((with_reducible refine x_iteW ?_ ?_); focus (first | rfl | assumption)) | ((with_reducible refine x_iteNV ?_ ?_); focus (first | rfl | assumption)) | ((with_reducible refine x_iteNW ?_ ?_); focus (first | rfl | assumption)) | ((with_reducible refine x_iteV ?_ ?_); focus (decide +kernel)) | ((with_reducible refine x_iteW ?_ ?_); focus (decide +kernel)) | ((with_reducible refine x_iteNV ?_ ?_); focus (decide +kernel)) | ((with_reducible refine x_iteNW ?_ ?_); focus (decide +kernel)) | (with_reducible refine x_ixT2 (by omega) (by omega) (fun _ => ?_) (fun _ => ?_)) | (with_reducible refine x_ixL2 (by omega) (by omega) (fun _ => ?_) (fun _ => ?_)) | (with_reducible refine x_ixT3 (by omega) (by omega) (fun _ => ?_) (fun _ => ?_) (fun _ => ?_)) | (with_reducible refine x_ixL3 (by omega) (by omega) (fun _ => ?_) (fun _ => ?_) (fun _ => ?_)) | (with_reducible refine x_ixT4 (by omega) (by omega) (fun _ => ?_) (fun _ => ?_) (fun _ => ?_) (fun _ => ?_)) | (with_reducible refine x_ixL4 (by omega) (by omega) (fun _ => ?_) (fun _ => ?_) (fun _ => ?_) (fun _ => ?_)) | (with_reducible refine x_ixT5 (by omega) (by omega) (fun _ => ?_) (fun _ => ?_) (fun _ => ?_) (fun _ => ?_) (fun _ => ?_)) | (with_reducible refine x_ixL5 (by omega) (by omega) (fun _ => ?_) (fun _ => ?_) (fun _ => ?_) (fun _ => ?_) (fun _ => ?_)) | (with_reducible refine x_ixT6 (by omega) (by omega) (fun _ => ?_) (fun _ => ?_) (fun _ => ?_) (fun _ => ?_) (fun _ => ?_) (fun _ => ?_)) | (with_reducible refine x_ixL6 (by omega) (by omega) (fun _ => ?_) (fun _ => ?_) (fun _ => ?_) (fun _ => ?_) (fun _ => ?_) (fun _ => ?_)) | (with_reducible refine x_ite (fun _ => ?_) (fun _ => ?_)) | (with_reducible refine x_iteN (fun _ => ?_) (fun _ => ?_)))))
local macro_rules | `(tactic| walk_at "frm") => `(tactic| repeat (first | assumption | exact Frm.refl _ _ | refine Frm.trans ?_ (by assumption)))
section
variable {P : Program} {w : World} {K : Frag} {mg : Str → Option Value} {base : Heap}
theorem moveOf_len {n m : Nat} {xs : List PV} (h : xs.length ≠ 2) : moveOf n m (.tup xs) = none := by
  unfold moveOf
  split
  · rename_i e; cases e; exact absurd rfl h
  · rfl
def qMv : PSp := fun ds w Q => ∃ n bows d, ds = [encP n bows, d] ∧ d.pl = true ∧ Q (.bl ((moveOf n bows.length d).isSome)) w
theorem ok_mv (T : Tx K mg) : FD P w K mg base "is_move" 1 qMv := fd_is_move T (by rintro ds w Q ⟨n, b, d, rfl, _⟩; rfl) (by
  rintro d0 d1 w' Q ⟨n, bows, _, e, hp, h⟩
  cases e
  unfold rd_is_move encP
  cases d1 with
  | tup xs =>
    rcases xs with _ | ⟨x, _ | ⟨y, _ | ⟨z, r⟩⟩⟩
    · walk_at "go"; exact h
    · rw [moveOf_len (by simp)] at h; walk_at "go"; exact h
    · cases x with
      | str s =>
        cases y with
        | int k =>
          simp only [moveOf] at h
          by_cases c1 : s = "lay"
          · subst c1
            simp only [if_true] at h
            walk_at "go"
            rw [List.length_replicate]
            refine x_ite (fun c => ?_) fun c => ?_
            · walk_at "go"
              have e : (if 0 ≤ k ∧ k < (n : Int) then some (("lay" : Str), k.toNat) else none).isSome = decide (k < (n : Int)) := by
                by_cases c2 : k < (n : Int)
                · rw [if_pos ⟨c, c2⟩, decide_eq_true c2]; rfl
                · rw [if_neg (fun z => c2 z.2), decide_eq_false c2]; rfl
              rw [e] at h; exact h
            · rw [if_neg (fun z => c z.1)] at h; exact h
          · simp only [if_neg c1] at h
            walk_at "go"
            rw [decide_eq_false c1, Bool.false_or]
            by_cases c2 : s = "forth" ∨ s = "back" ∨ s = "meet"
            · rw [if_pos c2] at h
              refine x_iteV (by rcases c2 with rfl | rfl | rfl <;> rfl) ?_
              walk_at "go"
              rw [List.length_map]
              refine x_ite (fun c => ?_) fun c => ?_
              · walk_at "go"
                have e : (if 0 ≤ k ∧ k < (bows.length : Int) then some (s, k.toNat) else none).isSome = decide (k < (bows.length : Int)) := by
                  by_cases c2 : k < (bows.length : Int)
                  · rw [if_pos ⟨c, c2⟩, decide_eq_true c2]; rfl
                  · rw [if_neg (fun z => c2 z.2), decide_eq_false c2]; rfl
                rw [e] at h; exact h
              · rw [if_neg (fun z => c z.1)] at h; exact h
            · rw [if_neg c2] at h
              have n1 : s ≠ "forth" := fun z => c2 (.inl z)
              have n2 : s ≠ "back" := fun z => c2 (.inr (.inl z))
              have n3 : s ≠ "meet" := fun z => c2 (.inr (.inr z))
              rw [decide_eq_false n1, decide_eq_false n2, decide_eq_false n3]
              walk_at "go"; exact h
        | bl b => walk_at "go"; exact h
        | non => walk_at "go"; exact h
        | str b => walk_at "go"; exact h
        | tup b => walk_at "go"; exact h
        | lst b => walk_at "go"; exact h
        | _ => simp [PV.pl, PV.pls] at hp
      | scr _ => simp [PV.pl, PV.pls] at hp
      | ref _ => simp [PV.pl, PV.pls] at hp
      | ty _ => simp [PV.pl, PV.pls] at hp
      | _ => walk_at "go"; exact h
    · rw [moveOf_len (by simp)] at h; walk_at "go"; exact h
  | scr _ => simp [PV.pl, PV.pls] at hp
  | ref _ => simp [PV.pl, PV.pls] at hp
  | ty _ => simp [PV.pl, PV.pls] at hp
  | _ => walk_at "go"; exact h)
end
end Lw

namespace Lw
open PySem L2 Pd Pl
local macro_rules | `(tactic| walk_at "get") => `(tactic| repeat (first | assumption | exact wset_same | refine Frm.get (by assumption) (by assumption) ?_ | refine wset_get (by assumption) ?_))
local macro_rules | `(tactic| walk_at "len") => `(tactic| focus (first | (rw [sizeLine_eq]; (try simp only [List.length_append, List.length_cons, List.length_nil, List.length_map, List.length_replicate, List.length_reverse]); omega) | (rw [sizeLine_eq]; simp; done) | omega))
local macro_rules | `(tactic| walk_at "call") => `(tactic| fail "none")
local macro_rules | `(tactic| walk_at "go") => `(tactic| (repeat (first | with_reducible refine Stp.go ?_ | dsimp only [List.set] | (walk_at "call") | (with_reducible refine x_rixMiss (by decide) ?_) | (with_reducible refine x_isM (by walk_at "get") ?_) | ((with_reducible refine x_app (by walk_at "get") ?_ ?_); walk_at "len") | ((with_reducible refine x_extL (by walk_at "get") ?_ ?_); walk_at "len") | (with_reducible refine x_tupR (by walk_at "get") ?_) | (with_reducible refine x_frzR (by walk_at "get") ?_) | ((with_reducible refine x_addRL (by walk_at "get") ?_ ?_); walk_at "len") | with_reducible refine x_rixr (by first | assumption | exact wset_same) ?_ | with_reducible refine x_lenR (by first | assumption | exact wset_same) ?_ | ((with_reducible refine x_rsubc (by first | assumption | exact wset_same) ?_ ?_); (first | (focus (simp; done)) | (focus (simp; omega)))) | ((with_reducible refine x_gtup ?_ ?_); (first | rfl | (focus (simp; done)))) | ((with_reducible refine x_cI ?_ ?_); (first | exact True.intro | assumption)) | ((with_reducible refine x_cI2 ?_ ?_); (first | exact True.intro | assumption)) | ((with_reducible refine x_addL ?_ ?_); walk_at "len") | ((with_reducible refine x_addT ?_ ?_); walk_at "len") | ((with_reducible refine x_addS ?_ ?_); (first | (focus (show _ ≤ sizeLine; rw [sizeLine_eq]; simp; done)) | omega)) | ((with_reducible refine x_mod ?_ ?_); (first | omega | assumption)) | ((with_reducible refine x_fdiv ?_ ?_ ?_); (first | omega | assumption); (first | omega | assumption)) | ((with_reducible refine x_mul ?_ ?_); (first | (left; omega) | (right; omega))) | ((with_reducible refine x_pow ?_ ?_ ?_ ?_); decide; decide; decide; (try simp only [Int.reduceToNat, Int.reducePow])) | ((with_reducible refine x_and ?_ ?_); (first | (focus (show _ ≤ sizeLine; rw [sizeLine_eq]; simp; done)) | omega)) | ((with_reducible refine x_rrng1 ?_ ?_ ?_); omega; omega) | ((with_reducible refine x_iteT ?_ ?_); (first | omega | assumption)) | ((with_reducible refine x_iteF ?_ ?_); (first | omega | assumption)) | ((with_reducible refine x_iteNT ?_ ?_); (first | omega | assumption)) | ((with_reducible refine x_iteNF ?_ ?_); (first | omega | assumption)) | with_reducible refine L2.iteT ?_ | with_reducible refine L2.iteF ?_ | simp only [wset_wset] | ((with_reducible refine x_iteV ?_ ?_); focus (first | rfl | assumption)) | ((with_reducible refine x_iteW ?_ ?_); focus (first | rfl | assumption)) | ((with_reducible refine x_iteNV ?_ ?_); focus (first | rfl | assumption)) | ((with_reducible refine x_iteNW ?_ ?_); focus (first | rfl | assumption)) | ((with_reducible refine x_iteV ?_ ?_); focus (decide +kernel)) | ((with_reducible refine x_iteW ?_ ?_); focus (decide +kernel)) | ((with_reducible refine x_iteNV ?_ ?_); focus (decide +kernel)) | ((with_reducible refine x_iteNW ?_ ?_); focus (decide +kernel)))))
local macro_rules | `(tactic| walk_at "gos") => `(tactic| (repeat' (first | with_reducible refine Stp.go ?_ | dsimp only [List.set] | (walk_at "call") | (with_reducible refine x_rixMiss (by decide) ?_) | (with_reducible refine x_isM (by walk_at "get") ?_) | ((with_reducible refine x_app (by walk_at "get") ?_ ?_); walk_at "len") | ((with_reducible refine x_extL (by walk_at "get") ?_ ?_); walk_at "len") | (with_reducible refine x_tupR (by walk_at "get") ?_) | (with_reducible refine x_frzR (by walk_at "get") ?_) | ((with_reducible refine x_addRL (by walk_at "get") ?_ ?_); walk_at "len") | with_reducible refine x_rixr (by first | assumption | exact wset_same) ?_ | with_reducible refine x_lenR (by first | assumption | exact wset_same) ?_ | ((with_reducible refine x_rsubc (by first | assumption | exact wset_same) ?_ ?_); (first | (focus (simp; done)) | (focus (simp; omega)))) | ((with_reducible refine x_gtup ?_ ?_); (first | rfl | (focus (simp; done)))) | ((with_reducible refine x_cI ?_ ?_); (first | exact True.intro | assumption)) | ((with_reducible refine x_cI2 ?_ ?_); (first | exact True.intro | assumption)) | ((with_reducible refine x_addL ?_ ?_); walk_at "len") | ((with_reducible refine x_addT ?_ ?_); walk_at "len") | ((with_reducible refine x_addS ?_ ?_); (first | (focus (show _ ≤ sizeLine; rw [sizeLine_eq]; simp; done)) | omega)) | ((with_reducible refine x_mod ?_ ?_); (first | omega | assumption)) | ((with_reducible refine x_fdiv ?_ ?_ ?_); (first | omega | assumption); (first | omega | assumption)) | ((with_reducible refine x_mul ?_ ?_); (first | (left; omega) | (right; omega))) | ((with_reducible refine x_pow ?_ ?_ ?_ ?_); decide; decide; decide; (try simp only [Int.reduceToNat, Int.reducePow])) | ((with_reducible refine x_and ?_ ?_); (first | (focus (show _ ≤ sizeLine; rw [sizeLine_eq]; simp; done)) | omega)) | ((with_reducible refine x_rrng1 ?_ ?_ ?_); omega; omega) | ((with_reducible refine x_iteT ?_ ?_); (first | omega | assumption)) | ((with_reducible refine x_iteF ?_ ?_); (first | omega | assumption)) | ((with_reducible refine x_iteNT ?_ ?_); (first | omega | assumption)) | ((with_reducible refine x_iteNF ?_ ?_); (first | omega | assumption)) | with_reducible refine L2.iteT ?_ | with_reducible refine L2.iteF ?_ | simp only [wset_wset] | ((with_reducible refine x_iteV ?_ ?_); focus (first | rfl | assumption)) | ((with_reducible refine x_iteW ?_ ?_); focus (first | rfl | assumption)) | ((with_reducible refine x_iteNV ?_ ?_); focus (first | rfl | assumption)) | ((with_reducible refine x_iteNW ?_ ?_); focus (first | rfl | assumption)) | ((with_reducible refine x_iteV ?_ ?_); focus (decide +kernel)) | ((with_reducible refine x_iteW ?_ ?_); focus (decide +kernel)) | ((with_reducible refine x_iteNV ?_ ?_); focus (decide +kernel)) | ((with_reducible refine x_iteNW ?_ ?_); focus (decide +kernel)) | (with_reducible refine x_ixT2 (by omega) (by omega) (fun _ => ?_) (fun _ => ?_)) | (with_reducible refine x_ixL2 (by omega) (by omega) (fun _ => ?_) (fun _ => ?_)) | (with_reducible refine x_ixT3 (by omega) (by omega) (fun _ => ?_) (fun _ => ?_) (fun _ => ?_)) | (with_reducible refine x_ixL3 (by omega) (by omega) (fun _ => ?_) (fun _ => ?_) (fun _ => ?_)) | (with_reducible refine x_ixT4 (by omega) (by omega) (fun _ => ?_) (fun _ => ?_) (fun _ => ?_) (fun _ => ?_)) | (with_reducible refine x_ixL4 (by omega) (by omega) (fun _ => ?_) (fun _ => ?_) (fun _ => ?_) (fun _ => ?_)) | (with_reducible refine x_ixT5 (by omega) (by omega) (fun _ => ?_) (fun _ => ?_) (fun _ => ?_) (fun _ => ?_) (fun _ => ?_)) | (with_reducible refine x_ixL5 (by omega) (by omega) (fun _ => ?_) (fun _ => ?_) (fun _ => ?_) (fun _ => ?_) (fun _ => ?_)) | (with_reducible refine x_ixT6 (by omega) (by omega) (fun _ => ?_) (fun _ => ?_) (fun _ => ?_) (fun _ => ?_) (fun _ => ?_) (fun _ => ?_)) | (with_reducible refine x_ixL6 (by omega) (by omega) (fun _ => ?_) (fun _ => ?_) (fun _ => ?_) (fun _ => ?_) (fun _ => ?_) (fun _ => ?_)) | (with_reducible refine x_ite (fun _ => ?_) (fun _ => ?_)) | (with_reducible refine x_iteN (fun _ => ?_) (fun _ => ?_)))))
local macro_rules | `(tactic| walk_at "frm") => `(tactic| repeat (first | assumption | exact Frm.refl _ _ | refine Frm.trans ?_ (by assumption)))
section
variable {P : Program} {w : World} {K : Frag} {mg : Str → Option Value} {base : Heap}
def qWt : PSp := fun ds w Q => ∃ (S : List Bool) (k : Nat), ds = [.tup (S.map PV.bl), .int k] ∧ k < S.length ∧ S.length ≤ 100 ∧ Q (.tup ((S.set k true).map PV.bl)) w
theorem set_cut {S : List Bool} {k : Nat} (h : k < S.length) : cutD (S.map PV.bl) none (some (k : Int)) ++ [PV.bl true] ++ cutD (S.map PV.bl) (some ((k : Int) + 1)) none = (S.set k true).map PV.bl := by
  have e1 : cutD (S.map PV.bl) none (some (k : Int)) = (S.map PV.bl).take k := by
    unfold cutD
    rw [HT.sIx_nat, HT.sIx_none]
    simp
  have e2 : cutD (S.map PV.bl) (some ((k : Int) + 1)) none = (S.map PV.bl).drop (k + 1) := by
    unfold cutD
    rw [show (k : Int) + 1 = ((k + 1 : Nat) : Int) by omega, HT.sIx_nat, HT.sIx_none]
    rw [List.take_of_length_le]
    · congr 1; simp; omega
    · rw [List.length_drop]; simp
  rw [e1, e2, List.set_eq_take_append_cons_drop, if_pos h]
  simp
theorem ok_wt (T : Tx K mg) : FD P w K mg base "with_true" 1 qWt := fd_with_true T (by rintro ds w Q ⟨n, b, rfl, _⟩; rfl) (by
  rintro d0 d1 w' Q ⟨S, k, e, hk, hl, h⟩
  cases e
  unfold rd_with_true
  have l1 := cutD_len (S.map PV.bl) none (some (k : Int))
  have l2 := cutD_len (S.map PV.bl) (some ((k : Int) + 1)) none
  rw [List.length_map] at l1 l2
  walk_at "go"
  rw [set_cut hk]; exact h)
def encS (s : Fl) : PV := .tup [.tup (s.1.map PV.bl), .tup (s.2.map PV.bl)]
def qFst : PSp := fun ds w Q => ∃ n bows, ds = [encP n bows] ∧ n ≤ 5 ∧ bows.length ≤ 5 ∧ Q (encS (s0 n (ends bows))) w
theorem rep_bl (n : Nat) : (List.replicate n [PV.bl false]).flatten = (List.replicate n false).map PV.bl := by
  induction n with
  | zero => rfl
  | succ n ih => rw [List.replicate_succ, List.flatten_cons, ih]; rfl
theorem ok_fst (T : Tx K mg) : FD P w K mg base "first_state" 1 qFst := fd_first_state T (by rintro ds w Q ⟨n, b, rfl, _⟩; rfl) (by
  rintro d0 w' Q ⟨n, bows, e, hn, hb, h⟩
  cases e
  unfold rd_first_state encP
  walk_at "go"
  refine x_mulT (by omega) (by rw [List.length_replicate]; omega) (by simp) ?_
  walk_at "go"
  refine x_mulT (by omega) (by rw [List.length_map]; omega) (by simp) ?_
  walk_at "go"
  rw [List.length_replicate, List.length_map, show ((n : Nat) : Int).toNat = n by omega, show ((bows.length : Nat) : Int).toNat = bows.length by omega, rep_bl, rep_bl]
  simpa [encS, s0, ends] using h)
def qDn : PSp := fun ds w Q => ∃ s, ds = [encS s] ∧ Q (.bl (s.1.all id && s.2.all id)) w
theorem ok_dn (T : Tx K mg) : FD P w K mg base "is_done" 1 qDn := fd_is_done T (by rintro ds w Q ⟨n, rfl, _⟩; rfl) (by
  rintro d0 w' Q ⟨⟨S, B⟩, e, h⟩
  cases e
  unfold rd_is_done encS
  walk_at "go"
  refine ⟨_, blsOf_map (fun b : Bool => b) S, ?_⟩
  refine x_onB ?_
  simp only [List.map_id'] at *
  cases e1 : S.all id
  · simp only [e1, Bool.false_and] at h
    walk_at "go"; exact h
  · simp only [e1, Bool.true_and] at h
    walk_at "go"
    refine ⟨_, blsOf_map (fun b : Bool => b) B, ?_⟩
    rw [List.map_id']; exact h)
def encO : Option Fl → PV
  | none => .non
  | some s => encS s
def qSb : PSp := fun ds w Q => ∃ n bows s m, ds = [encP n bows, encS s, encM m] ∧ s.1.length = n ∧ s.2.length = bows.length ∧ PatOk n (ends bows) ∧ ((m.1 = "lay" ∧ m.2 < n) ∨ ((m.1 = "forth" ∨ m.1 = "back" ∨ m.1 = "meet") ∧ m.1 ≠ "lay" ∧ m.2 < bows.length)) ∧ Q (encO (stepP (ends bows) s m)) w
theorem fl_at {S : List Bool} {k : Nat} (h : k < S.length) : atI (S.map PV.bl) (k : Int) = some (.bl (S.getD k false)) := by
  refine atI_nat ?_
  rw [List.getD_eq_getElem?_getD]; simp [h]
theorem x_wt {S : List Bool} {k : Nat} {w : Wd} {Q : WQ} (hk : k < S.length) (hl : S.length ≤ 100) (h : Q (.tup ((S.set k true).map PV.bl)) w) : qWt [.tup (S.map PV.bl), .int k] w Q := ⟨S, k, rfl, hk, hl, h⟩
theorem x_fl {S : List Bool} {k : Nat} {b : Bool} {w : Wd} {Q : WQ} (hk : k < S.length) (e : S.getD k false = b) (h : Q (.bl b) w) : dIx (.tup (S.map PV.bl)) (.int k) w Q := x_ixT (fl_at hk) (by rw [e]; exact h)
theorem eqb_pairB (a b c d : Bool) : PV.eqb (.tup [.bl a, .bl b]) (.tup [.bl c, .bl d]) = decide ((a, b) = (c, d)) := by
  rw [PV.eqb, PV.eqbs, PV.eqbs, PV.eqbs, PV.eqb, PV.eqb, Bool.and_true]; cases a <;> cases b <;> cases c <;> cases d <;> rfl
theorem x_neB2 {a b c d : Bool} {w : Wd} {Q : WQ} (h : Q (.bl (!decide ((a, b) = (c, d)))) w) : dNe (.tup [.bl a, .bl b]) (.tup [.bl c, .bl d]) w Q := by
  refine x_ne (by simp [PV.pl, PV.pls]) (by simp [PV.pl, PV.pls]) (by simp [PV.dep, PV.deps]) ?_
  rw [eqb_pairB]; exact h
local macro_rules | `(tactic| walk_at "call") => `(tactic| first | with_reducible refine x_fl (by omega) (by assumption) ?_ | with_reducible refine x_wt (by omega) (by omega) ?_ | with_reducible refine x_neB2 ?_ | with_reducible refine x_ixT (by assumption) ?_)
theorem ok_sb (T : Tx K mg) : FD P w K mg base "state_behind" 2 qSb := fd_state_behind T (ok_wt T) (Nat.le_refl _) (by rintro ds w Q ⟨n, b, s, m, rfl, _⟩; rfl) (by
  rintro d0 d1 d2 w' Q ⟨n, bows, ⟨S, B⟩, ⟨z, k⟩, e, h1, h2, po, hm, h⟩
  cases e
  have hn5 := po.n5
  have hb5 : bows.length ≤ 5 := by simpa [ends] using po.m5
  unfold rd_state_behind encP encS encM
  simp only at h1 h2 hm ⊢
  simp only [stepP] at h
  rcases hm with ⟨c1, hk⟩ | ⟨c2, c1, hk⟩
  · subst c1
    simp only [if_true] at h
    cases e1 : S.getD k false
    · simp only [e1, Bool.false_eq_true, if_false] at h
      walk_at "go"
      exact h
    · simp only [e1, if_true] at h
      walk_at "go"
      exact h
  · simp only [if_neg c1] at h
    obtain ⟨b1, b2, s1, s2, hb, hd⟩ := bow_at hk
    have hlt : b1 < n ∧ b2 < n := by
      have := po.lt (b1, b2) (by
        rw [← hd, List.getD_eq_getElem?_getD]
        have hk' : k < (ends bows).length := by simpa [ends] using hk
        rw [List.getElem?_eq_getElem hk']; exact List.getElem_mem hk')
      exact this
    obtain ⟨hl1, hl2⟩ := hlt
    simp only [hd] at h
    cases e1 : B.getD k false
    · cases e2 : S.getD b1 false <;> cases e3 : S.getD b2 false <;> rcases c2 with rfl | rfl | rfl <;> simp only [e1, e2, e3, sBF, sMF, sMB, if_true, if_false, Bool.false_eq_true, ne_eq, Prod.mk.injEq, Bool.true_eq_false, and_true, and_false, true_and, false_and, not_true_eq_false, not_false_eq_true] at h <;> (walk_at "go"; exact h)
    · simp only [e1, if_true] at h
      walk_at "go"
      exact h)
end
end Lw

namespace Lw
open PySem L2 Pd Pl
local macro_rules | `(tactic| walk_at "get") => `(tactic| repeat (first | assumption | exact wset_same | refine Frm.get (by assumption) (by assumption) ?_ | refine wset_get (by assumption) ?_))
local macro_rules | `(tactic| walk_at "len") => `(tactic| focus (first | (rw [sizeLine_eq]; (try simp only [List.length_append, List.length_cons, List.length_nil, List.length_map, List.length_replicate, List.length_reverse]); omega) | (rw [sizeLine_eq]; simp; done) | omega))
local macro_rules | `(tactic| walk_at "call") => `(tactic| fail "none")
local macro_rules | `(tactic| walk_at "go") => `(tactic| (repeat (first | with_reducible refine Stp.go ?_ | dsimp only [List.set] | (walk_at "call") | (with_reducible refine x_rixMiss (by decide) ?_) | (with_reducible refine x_isM (by walk_at "get") ?_) | ((with_reducible refine x_app (by walk_at "get") ?_ ?_); walk_at "len") | ((with_reducible refine x_extL (by walk_at "get") ?_ ?_); walk_at "len") | (with_reducible refine x_tupR (by walk_at "get") ?_) | (with_reducible refine x_frzR (by walk_at "get") ?_) | ((with_reducible refine x_addRL (by walk_at "get") ?_ ?_); walk_at "len") | with_reducible refine x_rixr (by first | assumption | exact wset_same) ?_ | with_reducible refine x_lenR (by first | assumption | exact wset_same) ?_ | ((with_reducible refine x_rsubc (by first | assumption | exact wset_same) ?_ ?_); (first | (focus (simp; done)) | (focus (simp; omega)))) | ((with_reducible refine x_gtup ?_ ?_); (first | rfl | (focus (simp; done)))) | ((with_reducible refine x_cI ?_ ?_); (first | exact True.intro | assumption)) | ((with_reducible refine x_cI2 ?_ ?_); (first | exact True.intro | assumption)) | ((with_reducible refine x_addL ?_ ?_); walk_at "len") | ((with_reducible refine x_addT ?_ ?_); walk_at "len") | ((with_reducible refine x_addS ?_ ?_); (first | (focus (show _ ≤ sizeLine; rw [sizeLine_eq]; simp; done)) | omega)) | ((with_reducible refine x_mod ?_ ?_); (first | omega | assumption)) | ((with_reducible refine x_fdiv ?_ ?_ ?_); (first | omega | assumption); (first | omega | assumption)) | ((with_reducible refine x_mul ?_ ?_); (first | (left; omega) | (right; omega))) | ((with_reducible refine x_pow ?_ ?_ ?_ ?_); decide; decide; decide; (try simp only [Int.reduceToNat, Int.reducePow])) | ((with_reducible refine x_and ?_ ?_); (first | (focus (show _ ≤ sizeLine; rw [sizeLine_eq]; simp; done)) | omega)) | ((with_reducible refine x_rrng1 ?_ ?_ ?_); omega; omega) | ((with_reducible refine x_iteT ?_ ?_); (first | omega | assumption)) | ((with_reducible refine x_iteF ?_ ?_); (first | omega | assumption)) | ((with_reducible refine x_iteNT ?_ ?_); (first | omega | assumption)) | ((with_reducible refine x_iteNF ?_ ?_); (first | omega | assumption)) | with_reducible refine L2.iteT ?_ | with_reducible refine L2.iteF ?_ | simp only [wset_wset] | ((with_reducible refine x_iteV ?_ ?_); focus (first | rfl | assumption)) | ((with_reducible refine x_iteW ?_ ?_); focus (first | rfl | assumption)) | ((with_reducible refine x_iteNV ?_ ?_); focus (first | rfl | assumption)) | ((with_reducible refine x_iteNW ?_ ?_); focus (first | rfl | assumption)) | ((with_reducible refine x_iteV ?_ ?_); focus (decide +kernel)) | ((with_reducible refine x_iteW ?_ ?_); focus (decide +kernel)) | ((with_reducible refine x_iteNV ?_ ?_); focus (decide +kernel)) | ((with_reducible refine x_iteNW ?_ ?_); focus (decide +kernel)))))
local macro_rules | `(tactic| walk_at "gos") => `(tactic| (repeat' (first | with_reducible refine Stp.go ?_ | dsimp only [List.set] | (walk_at "call") | (with_reducible refine x_rixMiss (by decide) ?_) | (with_reducible refine x_isM (by walk_at "get") ?_) | ((with_reducible refine x_app (by walk_at "get") ?_ ?_); walk_at "len") | ((with_reducible refine x_extL (by walk_at "get") ?_ ?_); walk_at "len") | (with_reducible refine x_tupR (by walk_at "get") ?_) | (with_reducible refine x_frzR (by walk_at "get") ?_) | ((with_reducible refine x_addRL (by walk_at "get") ?_ ?_); walk_at "len") | with_reducible refine x_rixr (by first | assumption | exact wset_same) ?_ | with_reducible refine x_lenR (by first | assumption | exact wset_same) ?_ | ((with_reducible refine x_rsubc (by first | assumption | exact wset_same) ?_ ?_); (first | (focus (simp; done)) | (focus (simp; omega)))) | ((with_reducible refine x_gtup ?_ ?_); (first | rfl | (focus (simp; done)))) | ((with_reducible refine x_cI ?_ ?_); (first | exact True.intro | assumption)) | ((with_reducible refine x_cI2 ?_ ?_); (first | exact True.intro | assumption)) | ((with_reducible refine x_addL ?_ ?_); walk_at "len") | ((with_reducible refine x_addT ?_ ?_); walk_at "len") | ((with_reducible refine x_addS ?_ ?_); (first | (focus (show _ ≤ sizeLine; rw [sizeLine_eq]; simp; done)) | omega)) | ((with_reducible refine x_mod ?_ ?_); (first | omega | assumption)) | ((with_reducible refine x_fdiv ?_ ?_ ?_); (first | omega | assumption); (first | omega | assumption)) | ((with_reducible refine x_mul ?_ ?_); (first | (left; omega) | (right; omega))) | ((with_reducible refine x_pow ?_ ?_ ?_ ?_); decide; decide; decide; (try simp only [Int.reduceToNat, Int.reducePow])) | ((with_reducible refine x_and ?_ ?_); (first | (focus (show _ ≤ sizeLine; rw [sizeLine_eq]; simp; done)) | omega)) | ((with_reducible refine x_rrng1 ?_ ?_ ?_); omega; omega) | ((with_reducible refine x_iteT ?_ ?_); (first | omega | assumption)) | ((with_reducible refine x_iteF ?_ ?_); (first | omega | assumption)) | ((with_reducible refine x_iteNT ?_ ?_); (first | omega | assumption)) | ((with_reducible refine x_iteNF ?_ ?_); (first | omega | assumption)) | with_reducible refine L2.iteT ?_ | with_reducible refine L2.iteF ?_ | simp only [wset_wset] | ((with_reducible refine x_iteV ?_ ?_); focus (first | rfl | assumption)) | ((with_reducible refine x_iteW ?_ ?_); focus (first | rfl | assumption)) | ((with_reducible refine x_iteNV ?_ ?_); focus (first | rfl | assumption)) | ((with_reducible refine x_iteNW ?_ ?_); focus (first | rfl | assumption)) | ((with_reducible refine x_iteV ?_ ?_); focus (decide +kernel)) | ((with_reducible refine x_iteW ?_ ?_); focus (decide +kernel)) | ((with_reducible refine x_iteNV ?_ ?_); focus (decide +kernel)) | ((with_reducible refine x_iteNW ?_ ?_); focus (decide +kernel)) | (with_reducible refine x_ixT2 (by omega) (by omega) (fun _ => ?_) (fun _ => ?_)) | (with_reducible refine x_ixL2 (by omega) (by omega) (fun _ => ?_) (fun _ => ?_)) | (with_reducible refine x_ixT3 (by omega) (by omega) (fun _ => ?_) (fun _ => ?_) (fun _ => ?_)) | (with_reducible refine x_ixL3 (by omega) (by omega) (fun _ => ?_) (fun _ => ?_) (fun _ => ?_)) | (with_reducible refine x_ixT4 (by omega) (by omega) (fun _ => ?_) (fun _ => ?_) (fun _ => ?_) (fun _ => ?_)) | (with_reducible refine x_ixL4 (by omega) (by omega) (fun _ => ?_) (fun _ => ?_) (fun _ => ?_) (fun _ => ?_)) | (with_reducible refine x_ixT5 (by omega) (by omega) (fun _ => ?_) (fun _ => ?_) (fun _ => ?_) (fun _ => ?_) (fun _ => ?_)) | (with_reducible refine x_ixL5 (by omega) (by omega) (fun _ => ?_) (fun _ => ?_) (fun _ => ?_) (fun _ => ?_) (fun _ => ?_)) | (with_reducible refine x_ixT6 (by omega) (by omega) (fun _ => ?_) (fun _ => ?_) (fun _ => ?_) (fun _ => ?_) (fun _ => ?_) (fun _ => ?_)) | (with_reducible refine x_ixL6 (by omega) (by omega) (fun _ => ?_) (fun _ => ?_) (fun _ => ?_) (fun _ => ?_) (fun _ => ?_) (fun _ => ?_)) | (with_reducible refine x_ite (fun _ => ?_) (fun _ => ?_)) | (with_reducible refine x_iteN (fun _ => ?_) (fun _ => ?_)))))
local macro_rules | `(tactic| walk_at "frm") => `(tactic| repeat (first | assumption | exact Frm.refl _ _ | refine Frm.trans ?_ (by assumption)))
section
variable {P : Program} {w : World} {K : Frag} {mg : Str → Option Value} {base : Heap}
def isPl (n : Nat) (bs : Bs) : PV → Bool
  | .lst xs => planP n bs (s0 n bs) xs
  | .tup xs => planP n bs (s0 n bs) xs
  | _ => false
def qIp : PSp := fun ds w Q => ∃ n bows d, ds = [encP n bows, d] ∧ PatOk n (ends bows) ∧ d.pl = true ∧ Q (.bl (isPl n (ends bows) d)) w
theorem x_mv {n : Nat} {bows : List Bow} {d : PV} {b : Bool} {w : Wd} {Q : WQ} (hp : d.pl = true) (e : (moveOf n bows.length d).isSome = b) (h : Q (.bl b) w) : qMv [encP n bows, d] w Q := ⟨n, bows, d, rfl, hp, by rw [e]; exact h⟩
theorem step_len {bs : Bs} {s s' : Fl} {m : Mv} (h : stepP bs s m = some s') : s'.1.length = s.1.length ∧ s'.2.length = s.2.length := by
  unfold stepP at h
  by_cases c1 : m.1 = "lay"
  · rw [if_pos c1] at h
    by_cases c2 : s.1.getD m.2 false = true
    · rw [if_pos c2] at h; cases h
    · rw [if_neg c2] at h; cases h; simp
  · rw [if_neg c1] at h
    by_cases c2 : s.2.getD m.2 false = true
    · rw [if_pos c2] at h; cases h
    · rw [if_neg c2] at h
      simp only at h
      generalize (if m.1 = "forth" then ((true, false) : Bool × Bool) else if m.1 = "back" then (false, true) else (true, true)) = due at h
      by_cases c3 : (s.1.getD (bs.getD m.2 (0, 0)).1 false, s.1.getD (bs.getD m.2 (0, 0)).2 false) = due
      · rw [if_pos c3] at h
        cases h
        simp only [List.length_set, and_true]
        split
        · simp
        · split <;> simp
      · rw [if_neg c3] at h; cases h
theorem ends_len (bows : List Bow) : (ends bows).length = bows.length := by simp [ends]
local macro_rules | `(tactic| walk_at "call") => `(tactic| first | with_reducible refine x_mv (by assumption) (by assumption) ?_)
theorem ok_ip (T : Tx K mg) : FD P w K mg base "is_plan" 3 qIp := fd_is_plan T (ok_dn T) (by omega) (ok_sb T) (by omega) (ok_mv T) (by omega) (ok_fst T) (by omega) (by rintro ds w Q ⟨n, b, d, rfl, _⟩; rfl) (by
  rintro d0 d1 w' Q ⟨n, bows, _, e, po, hp, h⟩
  cases e
  have hb5 : bows.length ≤ 5 := by simpa [ends] using po.m5
  have body : ∀ (xs : List PV) (thing : PV) (o3 : Option PV), PV.pls xs = true → Q (.bl (planP n (ends bows) (s0 n (ends bows)) xs)) w' →
      forD (wName 3) (wSeq2 (wIf (wNotT (wTest (wCall qMv (wCons (wVar 0) (wCons (wVar 3) wNil))))) (wRet (wC (.bl false))) wNext) (wSeq2 (wAsg (wCall qSb (wCons (wVar 0) (wCons (wVar 2) (wCons (wVar 3) wNil)))) (wName 2)) (wIf (wTest (wOp (dIs false) (wVar 2) (wC .non))) (wRet (wC (.bl false))) wNext)))
        { nx := wRet (wCall qDn (wCons (wVar 2) wNil)) { nx := fun _ w2 => Q .non w2, rt := Q }, rt := Q } xs [some (encP n bows), some thing, some (encS (s0 n (ends bows))), o3] w' := by
    intro xs thing o3 hpl hq
    refine for_ind (fun rest ρ w2 => ∃ s o3, ρ = [some (encP n bows), some thing, some (encS s), o3] ∧ w2 = w' ∧ PV.pls rest = true ∧ s.1.length = n ∧ s.2.length = bows.length ∧ planP n (ends bows) (s0 n (ends bows)) xs = planP n (ends bows) s rest) ?_ ?_ _ _ _ ⟨_, _, rfl, rfl, hpl, by simp [s0], by simp [s0, ends], rfl⟩
    · rintro ρ w2 ⟨s, o3, rfl, rfl, _, _, _, ep⟩
      walk_at "go"
      refine ⟨s, rfl, ?_⟩
      rw [ep] at hq; exact hq
    · rintro d r ρ w2 N hN ⟨s, o3, rfl, rfl, hr, l1, l2, ep⟩
      simp only [PV.pls, Bool.and_eq_true] at hr
      obtain ⟨hd, hr⟩ := hr
      cases em : moveOf n bows.length d with
      | none =>
        have em' : (moveOf n bows.length d).isSome = false := by rw [em]; rfl
        have ep' : planP n (ends bows) s (d :: r) = false := by simp only [planP, ends_len, em]
        rw [ep, ep'] at hq
        walk_at "go"
        exact hq
      | some m =>
        have em' : (moveOf n bows.length d).isSome = true := by rw [em]; rfl
        obtain ⟨rfl, hm⟩ := moveOf_enc em
        walk_at "go"
        refine ⟨n, bows, s, m, rfl, l1, l2, po, hm, ?_⟩
        cases es : stepP (ends bows) s m with
        | none =>
          have ep' : planP n (ends bows) s (encM m :: r) = false := by simp only [planP, ends_len, em, es]
          rw [ep, ep'] at hq
          simp only [encO]
          walk_at "go"
          exact hq
        | some s' =>
          have ep' : planP n (ends bows) s (encM m :: r) = planP n (ends bows) s' r := by simp only [planP, ends_len, em, es]
          obtain ⟨q1, q2⟩ := step_len es
          simp only [encO, encS]
          walk_at "go"
          exact hN _ _ ⟨s', _, rfl, rfl, hr, by omega, by omega, by rw [ep, ep']⟩
  unfold rd_is_plan
  cases d1 with
  | lst xs =>
    walk_at "go"
    refine ⟨n, bows, rfl, po.n5, hb5, ?_⟩
    walk_at "go"
    exact body xs _ _ (by simpa [PV.pl] using hp) h
  | tup xs =>
    walk_at "go"
    refine ⟨n, bows, rfl, po.n5, hb5, ?_⟩
    walk_at "go"
    exact body xs _ _ (by simpa [PV.pl] using hp) h
  | scr _ => simp [PV.pl] at hp
  | ref _ => simp [PV.pl] at hp
  | ty _ => simp [PV.pl] at hp
  | _ => walk_at "go"; exact h)
def isPL (n : Nat) (bs : Bs) : PV → Bool
  | .lst xs => planL n bs ([], []) xs
  | .tup xs => planL n bs ([], []) xs
  | _ => false
theorem isPl_same {n : Nat} {bs : Bs} (po : PatOk n bs) (d : PV) : isPl n bs d = isPL n bs d := by
  cases d <;> first | rfl | exact plan_same po _ (agr0 n bs)
def qLp : PSp := fun ds w Q => ∃ n bows d, ds = [encP n bows, d] ∧ PatOk n (ends bows) ∧ d.pl = true ∧ d.dep ≤ 60 ∧ Q (.bl (isPL n (ends bows) d)) w
theorem any_enc (ms : List Mv) (d : PV) : ((ms.map encM).any fun e => PV.eqb e d) = ms.any fun m => PV.eqb (encM m) d := by rw [List.any_map]; rfl
theorem x_nin {ms : List Mv} {d : PV} {b : Bool} {w : Wd} {Q : WQ} (hp : d.pl = true) (hd : d.dep ≤ 63) (e : (ms.any fun m => PV.eqb (encM m) d) = b) (h : Q (.bl (!b)) w) : dIn true d (.lst (ms.map encM)) w Q := by
  refine ⟨⟨hp, encM_pls ms, hd⟩, ?_⟩
  rw [any_enc, e]; exact h
theorem x_mvs {n : Nat} {bows : List Bow} {t : Ls} {w : Wd} {Q : WQ} (h1 : n ≤ 5) (h2 : bows.length ≤ 5) (h : Q (.lst ((movesL n (ends bows) t).map encM)) w) : qMoves [encP n bows, .lst (t.1.map nI), .lst (t.2.map nI)] w Q := ⟨n, bows, t, rfl, h1, h2, h⟩
local macro_rules | `(tactic| walk_at "call") => `(tactic| first | with_reducible refine x_mvs (by assumption) (by assumption) ?_)
theorem ok_lp (T : Tx K mg) : FD P w K mg base "_law_is_plan" 3 qLp := fd__law_is_plan T (ok_beh T) (by omega) (ok_moves T) (by omega) (by rintro ds w Q ⟨n, b, d, rfl, _⟩; rfl) (by
  rintro d0 d1 w' Q ⟨n, bows, _, e, po, hp, hdp, h⟩
  cases e
  have hb5 : bows.length ≤ 5 := by simpa [ends] using po.m5
  have hn5 := po.n5
  have body : ∀ (xs : List PV) (thing : PV) (o4 : Option PV), PV.pls xs = true → PV.deps xs ≤ 60 → Q (.bl (planL n (ends bows) ([], []) xs)) w' →
      forD (wName 4) (wSeq2 (wIf (wOrT (wNotT (wTest (wCB (cI "tuple" isTupP) (wCons (wVar 4) (wCons (wC (.ty "tuple")) wNil))))) (wOrT (wTest (wOp (dNe) (wCB cLen (wCons (wVar 4) wNil)) (wC (.int 2)))) (wTest (wCB (cI "bool" isBoolP) (wCons (wIxC 1 (wVar 4)) (wCons (wC (.ty "bool")) wNil)))))) (wRet (wC (.bl false))) wNext) (wSeq2 (wIf (wTest (wOp (dIn true) (wVar 4) (wCall qMoves (wCons (wVar 0) (wCons (wVar 2) (wCons (wVar 3) wNil)))))) (wRet (wC (.bl false))) wNext) (wAsg (wCall qBeh (wCons (wVar 0) (wCons (wVar 2) (wCons (wVar 3) (wCons (wVar 4) wNil))))) (wgTup 2 (wgCons (wName 2) (wgCons (wName 3) wgNil))))))
        { nx := wRet (wAndV (wOp (dEq) (wCB cLen (wCons (wVar 2) wNil)) (wCB cLen (wCons (wIxC 0 (wVar 0)) wNil))) (wOp (dEq) (wCB cLen (wCons (wVar 3) wNil)) (wCB cLen (wCons (wIxC 1 (wVar 0)) wNil)))) { nx := fun _ w2 => Q .non w2, rt := Q }, rt := Q } xs [some (encP n bows), some thing, some (.lst []), some (.lst []), o4] w' := by
    intro xs thing o4 hpl hdl hq
    refine for_ind (fun rest ρ w2 => ∃ (t : Ls) (o4 : Option PV), ρ = [some (encP n bows), some thing, some (.lst (t.1.map nI)), some (.lst (t.2.map nI)), o4] ∧ w2 = w' ∧ PV.pls rest = true ∧ PV.deps rest ≤ 60 ∧ (∃ s, Agr n (ends bows) s t) ∧ planL n (ends bows) ([], []) xs = planL n (ends bows) t rest) ?_ ?_ _ _ _ ⟨([], []), _, rfl, rfl, hpl, hdl, ⟨_, agr0 n _⟩, rfl⟩
    · rintro ρ w2 ⟨t, o4, rfl, rfl, _, _, _, ep⟩
      rw [ep] at hq
      simp only [planL, ends_len] at hq
      unfold encP
      walk_at "go"
      simp only [List.length_map, List.length_replicate]
      refine x_ite (fun c => ?_) fun c => ?_
      · walk_at "go"
        have c' : t.1.length = n := by omega
        rw [decide_eq_true c', Bool.true_and] at hq
        simp only [List.length_map]
        have e : decide ((t.2.length : Int) = (bows.length : Int)) = decide (t.2.length = bows.length) := Bool.eq_iff_iff.mpr (by simp; omega)
        rw [e]; exact hq
      · have c' : ¬ t.1.length = n := by omega
        rw [decide_eq_false c', Bool.false_and] at hq
        exact hq
    · rintro d r ρ w2 N hN ⟨t, o4, rfl, rfl, hr, hdr, ⟨s, ag⟩, ep⟩
      simp only [PV.pls, Bool.and_eq_true] at hr
      simp only [PV.deps] at hdr
      obtain ⟨hd, hr⟩ := hr
      have q1 := ag_le ag.a1
      have q2 := ag_le ag.a2
      rw [ag.l1] at q1; rw [ag.l2, ends_len] at q2
      have no : pairB d = false → Q (.bl false) w2 := fun pb => by
        have ep' : planL n (ends bows) t (d :: r) = false := by simp only [planL, pb, Bool.false_and, Bool.false_eq_true, if_false]
        rw [ep, ep'] at hq; exact hq
      cases d with
      | tup xs =>
        rcases xs with _ | ⟨x, _ | ⟨y, _ | ⟨z, r'⟩⟩⟩
        · walk_at "go"; exact no rfl
        · walk_at "go"; exact no (by cases x <;> rfl)
        · cases hy : isBoolP w2 y with
          | true =>
            obtain ⟨b, rfl⟩ : ∃ b, y = .bl b := by cases y <;> first | exact ⟨_, rfl⟩ | cases hy
            walk_at "go"; exact no rfl
          | false =>
            have pb : pairB (.tup [x, y]) = true := by cases y <;> first | rfl | cases hy
            have oy : okTy w2 y := okTy_pl (by simp [PV.pl, PV.pls] at hd; exact hd.2)
            walk_at "go"
            refine x_nin hd (by omega) rfl ?_
            cases ea : (movesL n (ends bows) t).any fun m => PV.eqb (encM m) (.tup [x, y])
            · have ep' : planL n (ends bows) t (.tup [x, y] :: r) = false := by simp only [planL, ea, Bool.and_false, Bool.false_eq_true, if_false]
              rw [ep, ep'] at hq
              walk_at "go"; exact hq
            · rw [List.any_eq_true] at ea
              obtain ⟨m, hm, em⟩ := ea
              have em2 := eqb_enc pb em
              rw [em2] at ep ⊢
              obtain ⟨k1, s', k2, ag'⟩ := step_of po ag hm
              have ep' : planL n (ends bows) t (encM m :: r) = planL n (ends bows) (behL (ends bows) t m) r := by
                simp only [planL]
                rw [if_pos (by rw [Bool.and_eq_true, List.any_eq_true]; exact ⟨rfl, m, hm, eqb_self m⟩), k1]
              walk_at "go"
              refine ⟨n, bows, t, m, rfl, mv_lt hm, by omega, by omega, ?_⟩
              walk_at "go"
              exact hN _ _ ⟨behL (ends bows) t m, _, rfl, rfl, hr, by omega, ⟨s', ag'⟩, by rw [ep, ep']⟩
        · walk_at "go"; exact no (by cases y <;> rfl)
      | scr _ => simp [PV.pl] at hd
      | ref _ => simp [PV.pl] at hd
      | ty _ => simp [PV.pl] at hd
      | _ => walk_at "go"; exact no rfl
  unfold rd__law_is_plan
  cases d1 with
  | lst xs =>
    walk_at "go"
    exact body xs _ _ (by simpa [PV.pl] using hp) (by simp only [PV.dep] at hdp; omega) h
  | tup xs =>
    walk_at "go"
    exact body xs _ _ (by simpa [PV.pl] using hp) (by simp only [PV.dep] at hdp; omega) h
  | scr _ => simp [PV.pl] at hp
  | ref _ => simp [PV.pl] at hp
  | ty _ => simp [PV.pl] at hp
  | _ => walk_at "go"; exact h)
end
end Lw

namespace Lw
open PySem L2 Pd Pl
local macro_rules | `(tactic| walk_at "get") => `(tactic| repeat (first | assumption | exact wset_same | refine Frm.get (by assumption) (by assumption) ?_ | refine wset_get (by assumption) ?_))
local macro_rules | `(tactic| walk_at "len") => `(tactic| focus (first | (rw [sizeLine_eq]; (try simp only [List.length_append, List.length_cons, List.length_nil, List.length_map, List.length_replicate, List.length_reverse]); omega) | (rw [sizeLine_eq]; simp; done) | omega))
local macro_rules | `(tactic| walk_at "call") => `(tactic| fail "none")
local macro_rules | `(tactic| walk_at "go") => `(tactic| (repeat (first | with_reducible refine Stp.go ?_ | dsimp only [List.set] | (walk_at "call") | (with_reducible refine x_rixMiss (by decide) ?_) | (with_reducible refine x_isM (by walk_at "get") ?_) | ((with_reducible refine x_app (by walk_at "get") ?_ ?_); walk_at "len") | ((with_reducible refine x_extL (by walk_at "get") ?_ ?_); walk_at "len") | (with_reducible refine x_tupR (by walk_at "get") ?_) | (with_reducible refine x_frzR (by walk_at "get") ?_) | ((with_reducible refine x_addRL (by walk_at "get") ?_ ?_); walk_at "len") | with_reducible refine x_rixr (by first | assumption | exact wset_same) ?_ | with_reducible refine x_lenR (by first | assumption | exact wset_same) ?_ | ((with_reducible refine x_rsubc (by first | assumption | exact wset_same) ?_ ?_); (first | (focus (simp; done)) | (focus (simp; omega)))) | ((with_reducible refine x_gtup ?_ ?_); (first | rfl | (focus (simp; done)))) | ((with_reducible refine x_cI ?_ ?_); (first | exact True.intro | assumption)) | ((with_reducible refine x_cI2 ?_ ?_); (first | exact True.intro | assumption)) | ((with_reducible refine x_addL ?_ ?_); walk_at "len") | ((with_reducible refine x_addT ?_ ?_); walk_at "len") | ((with_reducible refine x_addS ?_ ?_); (first | (focus (show _ ≤ sizeLine; rw [sizeLine_eq]; simp; done)) | omega)) | ((with_reducible refine x_mod ?_ ?_); (first | omega | assumption)) | ((with_reducible refine x_fdiv ?_ ?_ ?_); (first | omega | assumption); (first | omega | assumption)) | ((with_reducible refine x_mul ?_ ?_); (first | (left; omega) | (right; omega))) | ((with_reducible refine x_pow ?_ ?_ ?_ ?_); decide; decide; decide; (try simp only [Int.reduceToNat, Int.reducePow])) | ((with_reducible refine x_and ?_ ?_); (first | (focus (show _ ≤ sizeLine; rw [sizeLine_eq]; simp; done)) | omega)) | ((with_reducible refine x_rrng1 ?_ ?_ ?_); omega; omega) | ((with_reducible refine x_iteT ?_ ?_); (first | omega | assumption)) | ((with_reducible refine x_iteF ?_ ?_); (first | omega | assumption)) | ((with_reducible refine x_iteNT ?_ ?_); (first | omega | assumption)) | ((with_reducible refine x_iteNF ?_ ?_); (first | omega | assumption)) | with_reducible refine L2.iteT ?_ | with_reducible refine L2.iteF ?_ | simp only [wset_wset] | ((with_reducible refine x_iteV ?_ ?_); focus (first | rfl | assumption)) | ((with_reducible refine x_iteW ?_ ?_); focus (first | rfl | assumption)) | ((with_reducible refine x_iteNV ?_ ?_); focus (first | rfl | assumption)) | ((with_reducible refine x_iteNW ?_ ?_); focus (first | rfl | assumption)) | ((with_reducible refine x_iteV ?_ ?_); focus (decide +kernel)) | ((with_reducible refine x_iteW ?_ ?_); focus (decide +kernel)) | ((with_reducible refine x_iteNV ?_ ?_); focus (decide +kernel)) | ((with_reducible refine x_iteNW ?_ ?_); focus (decide +kernel)))))
local macro_rules | `(tactic| walk_at "gos") => `(tactic| (repeat' (first | with_reducible refine Stp.go ?_ | dsimp only [List.set] | (walk_at "call") | (with_reducible refine x_rixMiss (by decide) ?_) | (with_reducible refine x_isM (by walk_at "get") ?_) | ((with_reducible refine x_app (by walk_at "get") ?_ ?_); walk_at "len") | ((with_reducible refine x_extL (by walk_at "get") ?_ ?_); walk_at "len") | (with_reducible refine x_tupR (by walk_at "get") ?_) | (with_reducible refine x_frzR (by walk_at "get") ?_) | ((with_reducible refine x_addRL (by walk_at "get") ?_ ?_); walk_at "len") | with_reducible refine x_rixr (by first | assumption | exact wset_same) ?_ | with_reducible refine x_lenR (by first | assumption | exact wset_same) ?_ | ((with_reducible refine x_rsubc (by first | assumption | exact wset_same) ?_ ?_); (first | (focus (simp; done)) | (focus (simp; omega)))) | ((with_reducible refine x_gtup ?_ ?_); (first | rfl | (focus (simp; done)))) | ((with_reducible refine x_cI ?_ ?_); (first | exact True.intro | assumption)) | ((with_reducible refine x_cI2 ?_ ?_); (first | exact True.intro | assumption)) | ((with_reducible refine x_addL ?_ ?_); walk_at "len") | ((with_reducible refine x_addT ?_ ?_); walk_at "len") | ((with_reducible refine x_addS ?_ ?_); (first | (focus (show _ ≤ sizeLine; rw [sizeLine_eq]; simp; done)) | omega)) | ((with_reducible refine x_mod ?_ ?_); (first | omega | assumption)) | ((with_reducible refine x_fdiv ?_ ?_ ?_); (first | omega | assumption); (first | omega | assumption)) | ((with_reducible refine x_mul ?_ ?_); (first | (left; omega) | (right; omega))) | ((with_reducible refine x_pow ?_ ?_ ?_ ?_); decide; decide; decide; (try simp only [Int.reduceToNat, Int.reducePow])) | ((with_reducible refine x_and ?_ ?_); (first | (focus (show _ ≤ sizeLine; rw [sizeLine_eq]; simp; done)) | omega)) | ((with_reducible refine x_rrng1 ?_ ?_ ?_); omega; omega) | ((with_reducible refine x_iteT ?_ ?_); (first | omega | assumption)) | ((with_reducible refine x_iteF ?_ ?_); (first | omega | assumption)) | ((with_reducible refine x_iteNT ?_ ?_); (first | omega | assumption)) | ((with_reducible refine x_iteNF ?_ ?_); (first | omega | assumption)) | with_reducible refine L2.iteT ?_ | with_reducible refine L2.iteF ?_ | simp only [wset_wset] | ((with_reducible refine x_iteV ?_ ?_); focus (first | rfl | assumption)) | ((with_reducible refine x_iteW ?_ ?_); focus (first | rfl | assumption)) | ((with_reducible refine x_iteNV ?_ ?_); focus (first | rfl | assumption)) | ((with_reducible refine x_iteNW ?_ ?_); focus (first | rfl | assumption)) | ((with_reducible refine x_iteV ?_ ?_); focus (decide +kernel)) | ((with_reducible refine x_iteW ?_ ?_); focus (decide +kernel)) | ((with_reducible refine x_iteNV ?_ ?_); focus (decide +kernel)) | ((with_reducible refine x_iteNW ?_ ?_); focus (decide +kernel)) | (with_reducible refine x_ixT2 (by omega) (by omega) (fun _ => ?_) (fun _ => ?_)) | (with_reducible refine x_ixL2 (by omega) (by omega) (fun _ => ?_) (fun _ => ?_)) | (with_reducible refine x_ixT3 (by omega) (by omega) (fun _ => ?_) (fun _ => ?_) (fun _ => ?_)) | (with_reducible refine x_ixL3 (by omega) (by omega) (fun _ => ?_) (fun _ => ?_) (fun _ => ?_)) | (with_reducible refine x_ixT4 (by omega) (by omega) (fun _ => ?_) (fun _ => ?_) (fun _ => ?_) (fun _ => ?_)) | (with_reducible refine x_ixL4 (by omega) (by omega) (fun _ => ?_) (fun _ => ?_) (fun _ => ?_) (fun _ => ?_)) | (with_reducible refine x_ixT5 (by omega) (by omega) (fun _ => ?_) (fun _ => ?_) (fun _ => ?_) (fun _ => ?_) (fun _ => ?_)) | (with_reducible refine x_ixL5 (by omega) (by omega) (fun _ => ?_) (fun _ => ?_) (fun _ => ?_) (fun _ => ?_) (fun _ => ?_)) | (with_reducible refine x_ixT6 (by omega) (by omega) (fun _ => ?_) (fun _ => ?_) (fun _ => ?_) (fun _ => ?_) (fun _ => ?_) (fun _ => ?_)) | (with_reducible refine x_ixL6 (by omega) (by omega) (fun _ => ?_) (fun _ => ?_) (fun _ => ?_) (fun _ => ?_) (fun _ => ?_) (fun _ => ?_)) | (with_reducible refine x_ite (fun _ => ?_) (fun _ => ?_)) | (with_reducible refine x_iteN (fun _ => ?_) (fun _ => ?_)))))
local macro_rules | `(tactic| walk_at "frm") => `(tactic| repeat (first | assumption | exact Frm.refl _ _ | refine Frm.trans ?_ (by assumption)))
section
variable {P : Program} {w : World} {K : Frag} {mg : Str → Option Value} {base : Heap}
def okT (m : Nat) (d : PV) : Prop := d.pl = true ∧ d.dep ≤ m
theorem okT_lst {m : Nat} : ∀ {xs : List PV}, (∀ x ∈ xs, okT m x) → PV.pls xs = true ∧ PV.deps xs ≤ m
  | [], _ => ⟨rfl, Nat.zero_le _⟩
  | x :: r, h => by
    obtain ⟨h1, h2⟩ := okT_lst (xs := r) fun y hy => h y (List.mem_cons_of_mem _ hy)
    obtain ⟨h3, h4⟩ := h x (List.mem_cons_self ..)
    refine ⟨by simp [PV.pls, h1, h3], ?_⟩
    simp only [PV.deps]; omega
theorem okT_l {m : Nat} {xs : List PV} (h : ∀ x ∈ xs, okT m x) : okT (m + 1) (.lst xs) := by
  obtain ⟨h1, h2⟩ := okT_lst h
  exact ⟨by simpa [PV.pl] using h1, by simp only [PV.dep]; omega⟩
theorem okT_enc (m : Mv) : okT 1 (encM m) := ⟨by simp [encM, PV.pl, PV.pls], by simp [encM, PV.dep, PV.deps]⟩
theorem okT_mono {m n : Nat} {d : PV} (h : okT m d) (hl : m ≤ n) : okT n d := ⟨h.1, Nat.le_trans h.2 hl⟩
def qBent : PSp := fun ds w Q => ∃ (a : Addr) (F : Nat) (pat : PV) (ms : List Mv), ds = [.ref a, pat, .lst (ms.map encM)] ∧ Hnd w a F ∧ 10 ≤ F ∧ 1 ≤ ms.length ∧ ms.length ≤ 10 ∧ ∀ d w', okT 5 d → Hnd w' a (F - 10) → Q d w'
local macro_rules | `(tactic| walk_at "call") => `(tactic| first | with_reducible refine x_take (by assumption) (by omega) (by omega) (by omega) (fun _ _ _ _ _ _ => ?_) | with_reducible refine x_ixL (by assumption) ?_ | with_reducible refine x_ixMem (by omega) (by simp only [List.length_cons, List.length_nil]; omega) (fun _ _ => ?_))
theorem ok_bent (T : Tx K mg) : FD P w K mg base "_law_bent" 2 qBent := fd__law_bent T (ok_take T) (by omega) (by rintro ds w Q ⟨a, F, p, ms, rfl, _⟩; rfl) (by
  rintro d0 d1 d2 w' Q ⟨a, F, pat, ms, e, hH, hF, h1, h10, h⟩
  cases e
  have hml : (ms.map encM).length = ms.length := List.length_map ..
  unfold rd__law_bent
  walk_at "go"
  rename_i at_ w1 a0 a1 hH1 _ i2 w2 _ _ hH2 _ wd_ hwd i3 w3 b0 b1 hH3 _
  rw [List.length_map] at a1
  have c1 := cutD_len (ms.map encM) none (some at_)
  have c2 := cutD_len (ms.map encM) (some (at_ + 1)) none
  rw [List.length_map] at c1 c2
  have m1 : ∀ x ∈ cutD (ms.map encM) none (some at_), okT 1 x := fun x hx => by
    obtain ⟨m, _, rfl⟩ := List.mem_map.mp (cutD_mem hx); exact okT_enc m
  have m2 : ∀ x ∈ cutD (ms.map encM) (some (at_ + 1)) none, okT 1 x := fun x hx => by
    obtain ⟨m, _, rfl⟩ := List.mem_map.mp (cutD_mem hx); exact okT_enc m
  have m3 : ∀ x ∈ ms.map encM, okT 1 x := fun x hx => by
    obtain ⟨m, _, rfl⟩ := List.mem_map.mp hx; exact okT_enc m
  obtain ⟨d, hd, hm⟩ := atI_lt (xs := ms.map encM) (i := at_) a0 (by rw [List.length_map]; exact a1)
  obtain ⟨⟨z, k⟩, _, rfl⟩ := List.mem_map.mp hm
  simp only [encM] at hd
  have hok : okT 0 wd_ := by
    simp only [List.mem_cons, List.not_mem_nil, or_false] at hwd
    rcases hwd with rfl | rfl | rfl | rfl | rfl | rfl | rfl <;> exact ⟨rfl, Nat.le_refl _⟩
  walk_at "go"
  intro p hp
  have np := hH3.off hp
  walk_at "go"
  refine x_take (hH3.set np) (by omega) (by omega) (by omega) (fun i5 w5 k0 k1 hH5 _ => ?_)
  refine x_ixMem k0 (by simp only [List.length_append, List.length_cons, List.length_nil]; omega) (fun od hod => ?_)
  have ood : okT 2 od := by
    simp only [List.mem_append, List.mem_cons, List.not_mem_nil, or_false] at hod
    rcases hod with (rfl | rfl | rfl | rfl | rfl | rfl) | (rfl | rfl | rfl | rfl | rfl | rfl) <;> exact ⟨by simp [PV.pl, PV.pls], by simp [PV.dep, PV.deps]⟩
  walk_at "go"
  rename_i i6 w6 _ _ _ _ ox hox i7 w7 l0 l1 hH7 _
  have oox : okT 2 ox := by
    simp only [List.mem_cons, List.not_mem_nil, or_false] at hox
    rcases hox with rfl | rfl | rfl | rfl | rfl | rfl | rfl | rfl | rfl <;> exact ⟨by simp [PV.pl, PV.pls], by simp [PV.dep, PV.deps]⟩
  have one : ∀ y : PV, okT 2 y → ∀ x ∈ [y], okT 2 x := fun y hy x hx => by rw [List.mem_singleton.mp hx]; exact hy
  have app : ∀ {xs ys : List PV}, (∀ x ∈ xs, okT 2 x) → (∀ x ∈ ys, okT 2 x) → ∀ x ∈ xs ++ ys, okT 2 x := fun h1 h2 x hx => (List.mem_append.mp hx).elim (h1 x) (h2 x)
  have m1' : ∀ x ∈ cutD (ms.map encM) none (some at_), okT 2 x := fun x hx => okT_mono (m1 x hx) (by omega)
  have m2' : ∀ x ∈ cutD (ms.map encM) (some (at_ + 1)) none, okT 2 x := fun x hx => okT_mono (m2 x hx) (by omega)
  have m3' : ∀ x ∈ ms.map encM, okT 2 x := fun x hx => okT_mono (m3 x hx) (by omega)
  have m4 : ∀ x ∈ (ms.map encM).reverse, okT 2 x := fun x hx => m3' x (List.mem_reverse.mp hx)
  have pr : ∀ i : Int, okT 2 (.tup [.str z, .int i]) := fun i => ⟨by simp [PV.pl, PV.pls], by simp [PV.dep, PV.deps]⟩
  have pw : ∀ i : Int, okT 2 (.tup [wd_, .int i]) := fun i => ⟨by simp [PV.pl, PV.pls, hok.1], by have := hok.2; simp [PV.dep, PV.deps]; omega⟩
  refine x_ixMem l0 (by simp only [List.length_append, List.length_cons, List.length_nil]; omega) (fun d hd' => ?_)
  have okd : okT 5 d := by
    refine okT_mono (m := 3) ?_ (by omega)
    simp only [List.mem_append, List.mem_cons, List.not_mem_nil, or_false] at hd'
    rcases hd' with ((((((rfl | rfl | rfl | rfl | rfl) | rfl) | rfl) | rfl) | rfl) | rfl)
    · exact okT_l (app m1' m2')
    · exact okT_l (app m3' (one _ (pr _)))
    · exact okT_l (app (app m1' m2') (one _ (pr _)))
    · exact okT_l (app (one _ (pr _)) (app m1' m2'))
    · exact okT_l (app m3' (one _ (pw _)))
    · exact okT_l m4
    · exact okT_l (app (app m1' (one _ (pw _))) m2')
    · exact okT_l (app (app m1' (one _ (pr _))) m2')
    · exact okT_l (app (app m1' (one _ ood)) m2')
    · exact okT_mono oox (by omega)
  walk_at "go"
  exact h d _ okd (hH7.le (by omega)))
end
end Lw

namespace Lw
open PySem L2 Pd Pl
local macro_rules | `(tactic| walk_at "get") => `(tactic| repeat (first | assumption | exact wset_same | refine Frm.get (by assumption) (by assumption) ?_ | refine wset_get (by assumption) ?_))
local macro_rules | `(tactic| walk_at "len") => `(tactic| focus (first | (rw [sizeLine_eq]; (try simp only [List.length_append, List.length_cons, List.length_nil, List.length_map, List.length_replicate, List.length_reverse]); omega) | (rw [sizeLine_eq]; simp; done) | omega))
local macro_rules | `(tactic| walk_at "call") => `(tactic| fail "none")
local macro_rules | `(tactic| walk_at "go") => `(tactic| (repeat (first | with_reducible refine Stp.go ?_ | dsimp only [List.set] | (walk_at "call") | (with_reducible refine x_rixMiss (by decide) ?_) | (with_reducible refine x_isM (by walk_at "get") ?_) | ((with_reducible refine x_app (by walk_at "get") ?_ ?_); walk_at "len") | ((with_reducible refine x_extL (by walk_at "get") ?_ ?_); walk_at "len") | (with_reducible refine x_tupR (by walk_at "get") ?_) | (with_reducible refine x_frzR (by walk_at "get") ?_) | ((with_reducible refine x_addRL (by walk_at "get") ?_ ?_); walk_at "len") | with_reducible refine x_rixr (by first | assumption | exact wset_same) ?_ | with_reducible refine x_lenR (by first | assumption | exact wset_same) ?_ | ((with_reducible refine x_rsubc (by first | assumption | exact wset_same) ?_ ?_); (first | (focus (simp; done)) | (focus (simp; omega)))) | ((with_reducible refine x_gtup ?_ ?_); (first | rfl | (focus (simp; done)))) | ((with_reducible refine x_cI ?_ ?_); (first | exact True.intro | assumption)) | ((with_reducible refine x_cI2 ?_ ?_); (first | exact True.intro | assumption)) | ((with_reducible refine x_addL ?_ ?_); walk_at "len") | ((with_reducible refine x_addT ?_ ?_); walk_at "len") | ((with_reducible refine x_addS ?_ ?_); (first | (focus (show _ ≤ sizeLine; rw [sizeLine_eq]; simp; done)) | omega)) | ((with_reducible refine x_mod ?_ ?_); (first | omega | assumption)) | ((with_reducible refine x_fdiv ?_ ?_ ?_); (first | omega | assumption); (first | omega | assumption)) | ((with_reducible refine x_mul ?_ ?_); (first | (left; omega) | (right; omega))) | ((with_reducible refine x_pow ?_ ?_ ?_ ?_); decide; decide; decide; (try simp only [Int.reduceToNat, Int.reducePow])) | ((with_reducible refine x_and ?_ ?_); (first | (focus (show _ ≤ sizeLine; rw [sizeLine_eq]; simp; done)) | omega)) | ((with_reducible refine x_rrng1 ?_ ?_ ?_); omega; omega) | ((with_reducible refine x_iteT ?_ ?_); (first | omega | assumption)) | ((with_reducible refine x_iteF ?_ ?_); (first | omega | assumption)) | ((with_reducible refine x_iteNT ?_ ?_); (first | omega | assumption)) | ((with_reducible refine x_iteNF ?_ ?_); (first | omega | assumption)) | with_reducible refine L2.iteT ?_ | with_reducible refine L2.iteF ?_ | simp only [wset_wset] | ((with_reducible refine x_iteV ?_ ?_); focus (first | rfl | assumption)) | ((with_reducible refine x_iteW ?_ ?_); focus (first | rfl | assumption)) | ((with_reducible refine x_iteNV ?_ ?_); focus (first | rfl | assumption)) | ((with_reducible refine x_iteNW ?_ ?_); focus (first | rfl | assumption)) | ((with_reducible refine x_iteV ?_ ?_); focus (decide +kernel)) | ((with_reducible refine x_iteW ?_ ?_); focus (decide +kernel)) | ((with_reducible refine x_iteNV ?_ ?_); focus (decide +kernel)) | ((with_reducible refine x_iteNW ?_ ?_); focus (decide +kernel)))))
local macro_rules | `(tactic| walk_at "gos") => `(tactic| (repeat' (first | with_reducible refine Stp.go ?_ | dsimp only [List.set] | (walk_at "call") | (with_reducible refine x_rixMiss (by decide) ?_) | (with_reducible refine x_isM (by walk_at "get") ?_) | ((with_reducible refine x_app (by walk_at "get") ?_ ?_); walk_at "len") | ((with_reducible refine x_extL (by walk_at "get") ?_ ?_); walk_at "len") | (with_reducible refine x_tupR (by walk_at "get") ?_) | (with_reducible refine x_frzR (by walk_at "get") ?_) | ((with_reducible refine x_addRL (by walk_at "get") ?_ ?_); walk_at "len") | with_reducible refine x_rixr (by first | assumption | exact wset_same) ?_ | with_reducible refine x_lenR (by first | assumption | exact wset_same) ?_ | ((with_reducible refine x_rsubc (by first | assumption | exact wset_same) ?_ ?_); (first | (focus (simp; done)) | (focus (simp; omega)))) | ((with_reducible refine x_gtup ?_ ?_); (first | rfl | (focus (simp; done)))) | ((with_reducible refine x_cI ?_ ?_); (first | exact True.intro | assumption)) | ((with_reducible refine x_cI2 ?_ ?_); (first | exact True.intro | assumption)) | ((with_reducible refine x_addL ?_ ?_); walk_at "len") | ((with_reducible refine x_addT ?_ ?_); walk_at "len") | ((with_reducible refine x_addS ?_ ?_); (first | (focus (show _ ≤ sizeLine; rw [sizeLine_eq]; simp; done)) | omega)) | ((with_reducible refine x_mod ?_ ?_); (first | omega | assumption)) | ((with_reducible refine x_fdiv ?_ ?_ ?_); (first | omega | assumption); (first | omega | assumption)) | ((with_reducible refine x_mul ?_ ?_); (first | (left; omega) | (right; omega))) | ((with_reducible refine x_pow ?_ ?_ ?_ ?_); decide; decide; decide; (try simp only [Int.reduceToNat, Int.reducePow])) | ((with_reducible refine x_and ?_ ?_); (first | (focus (show _ ≤ sizeLine; rw [sizeLine_eq]; simp; done)) | omega)) | ((with_reducible refine x_rrng1 ?_ ?_ ?_); omega; omega) | ((with_reducible refine x_iteT ?_ ?_); (first | omega | assumption)) | ((with_reducible refine x_iteF ?_ ?_); (first | omega | assumption)) | ((with_reducible refine x_iteNT ?_ ?_); (first | omega | assumption)) | ((with_reducible refine x_iteNF ?_ ?_); (first | omega | assumption)) | with_reducible refine L2.iteT ?_ | with_reducible refine L2.iteF ?_ | simp only [wset_wset] | ((with_reducible refine x_iteV ?_ ?_); focus (first | rfl | assumption)) | ((with_reducible refine x_iteW ?_ ?_); focus (first | rfl | assumption)) | ((with_reducible refine x_iteNV ?_ ?_); focus (first | rfl | assumption)) | ((with_reducible refine x_iteNW ?_ ?_); focus (first | rfl | assumption)) | ((with_reducible refine x_iteV ?_ ?_); focus (decide +kernel)) | ((with_reducible refine x_iteW ?_ ?_); focus (decide +kernel)) | ((with_reducible refine x_iteNV ?_ ?_); focus (decide +kernel)) | ((with_reducible refine x_iteNW ?_ ?_); focus (decide +kernel)) | (with_reducible refine x_ixT2 (by omega) (by omega) (fun _ => ?_) (fun _ => ?_)) | (with_reducible refine x_ixL2 (by omega) (by omega) (fun _ => ?_) (fun _ => ?_)) | (with_reducible refine x_ixT3 (by omega) (by omega) (fun _ => ?_) (fun _ => ?_) (fun _ => ?_)) | (with_reducible refine x_ixL3 (by omega) (by omega) (fun _ => ?_) (fun _ => ?_) (fun _ => ?_)) | (with_reducible refine x_ixT4 (by omega) (by omega) (fun _ => ?_) (fun _ => ?_) (fun _ => ?_) (fun _ => ?_)) | (with_reducible refine x_ixL4 (by omega) (by omega) (fun _ => ?_) (fun _ => ?_) (fun _ => ?_) (fun _ => ?_)) | (with_reducible refine x_ixT5 (by omega) (by omega) (fun _ => ?_) (fun _ => ?_) (fun _ => ?_) (fun _ => ?_) (fun _ => ?_)) | (with_reducible refine x_ixL5 (by omega) (by omega) (fun _ => ?_) (fun _ => ?_) (fun _ => ?_) (fun _ => ?_) (fun _ => ?_)) | (with_reducible refine x_ixT6 (by omega) (by omega) (fun _ => ?_) (fun _ => ?_) (fun _ => ?_) (fun _ => ?_) (fun _ => ?_) (fun _ => ?_)) | (with_reducible refine x_ixL6 (by omega) (by omega) (fun _ => ?_) (fun _ => ?_) (fun _ => ?_) (fun _ => ?_) (fun _ => ?_) (fun _ => ?_)) | (with_reducible refine x_ite (fun _ => ?_) (fun _ => ?_)) | (with_reducible refine x_iteN (fun _ => ?_) (fun _ => ?_)))))
local macro_rules | `(tactic| walk_at "frm") => `(tactic| repeat (first | assumption | exact Frm.refl _ _ | refine Frm.trans ?_ (by assumption)))
section
variable {P : Program} {w : World} {K : Frag} {mg : Str → Option Value} {base : Heap}
theorem ok_law (T : Tx K mg) {fa : Addr} {fd : FuncData} (F : Fun K "law" "law" s_law fa fd) : FnOk P w K mg base CX0 10 fa fd ["_law_script"] (upSp ⟨P, w, K⟩ pLaw) :=
  fn_law T F (ok_lp T) (by omega) (ok_ip T) (by omega) (ok_bent T) (by omega) (ok_plan T) (by omega) (ok_box T) (by omega) (ok_pat T) (by omega) (k := 9) (by rintro ds w Q ⟨ns, rfl, _⟩; rfl) (by
  rintro d0 w' Q ⟨ns, e, hlen, rfl, h⟩
  cases e
  unfold rd_law
  walk_at "go"
  refine ⟨ns, 1, rfl, by omega, by omega, fun a0 m0 ha0 hm0 => ?_⟩
  walk_at "go"
  refine ⟨a0, 2 ^ 39, rfl, ⟨m0, wset_same, hm0⟩, by omega, fun n bows w1 po => ?_⟩
  walk_at "go"
  refine for_ind (fun rest ρ w2 => ∃ o2 o3 o4 o5 o6 o7, ρ = [some (.scr (ns.map PV.int)), some (encP n bows), o2, o3, o4, o5, o6, o7] ∧ ∀ x ∈ rest, ∃ i : Int, x = .int i ∧ 0 ≤ i ∧ i < 1000000) ?_ ?_ _ _ _ ⟨_, _, _, _, _, _, rfl, ?_⟩
  · rintro ρ w3 ⟨_, _, _, _, _, _, rfl, _⟩
    walk_at "go"
    exact h w3
  · rintro d r ρ w3 N hN ⟨_, _, _, _, _, _, rfl, hr⟩
    obtain ⟨i, rfl, hi0, hi1⟩ := hr d (List.mem_cons_self ..)
    walk_at "go"
    refine ⟨ns, i, rfl, hi0, hi1, fun a m ha hm => ?_⟩
    have hH : Hnd (wset w3 a m) a (2 ^ 39) := ⟨m, wset_same, hm⟩
    generalize wset w3 a m = w4 at hH
    walk_at "go"
    refine ⟨a, _, n, bows, rfl, hH, by omega, po, fun ms u w5 hrun hend hH5 _ => ?_⟩
    have ht := run_done po hrun hend
    have hip : isPl n (ends bows) (.lst (ms.map encM)) = true := (isPl_same po _).trans ht
    have hit : isPl n (ends bows) (.tup (ms.map encM)) = true := (isPl_same po _).trans ht
    have hl1 := run_len po hrun
    have n5 := po.n5; have m5 := po.m5
    have hl0 : 1 ≤ ms.length := by
      rcases Nat.eq_zero_or_pos ms.length with q | q
      · have : ms = [] := List.eq_nil_of_length_eq_zero q
        subst this
        have hu : u = ([], []) := by
          generalize e : ([] : List Mv) = l at hrun
          cases hrun with
          | nil => rfl
          | snoc => simp at e
        rw [hu] at hend
        exact absurd hend (moves_first po)
      · exact q
    walk_at "go"
    refine ⟨n, bows, _, rfl, po, by simp [PV.pl, encM_pls], ?_⟩
    rw [hip]
    walk_at "go"
    refine ⟨n, bows, _, rfl, po, by simp [PV.pl, encM_pls], ?_⟩
    rw [hit]
    walk_at "go"
    refine for_ind (fun rest ρ w6 => ∃ o5 o6 o7 G, ρ = [some (.scr (ns.map PV.int)), some (encP n bows), some (.int i), some (.ref a), some (.lst (ms.map encM)), o5, o6, o7] ∧ Hnd w6 a G ∧ 10 * rest.length ≤ G) ?_ ?_ _ _ _ ⟨_, _, _, _, rfl, hH5, ?_⟩
    · rintro ρ w6 ⟨_, _, _, _, rfl, _⟩
      walk_at "go"
      exact hN _ _ ⟨_, _, _, _, _, _, rfl, fun x hx => hr x (List.mem_cons_of_mem _ hx)⟩
    · rintro d' r' ρ w6 N' hN' ⟨_, _, _, G, rfl, hH6, hG⟩
      rw [List.length_cons] at hG
      walk_at "go"
      refine ⟨a, G, _, ms, rfl, hH6, by omega, hl0, by omega, fun th w7 hth hH7 => ?_⟩
      walk_at "go"
      refine ⟨n, bows, th, rfl, po, hth.1, ?_⟩
      walk_at "go"
      refine ⟨n, bows, th, rfl, po, hth.1, Nat.le_trans hth.2 (by omega), ?_⟩
      rw [isPl_same po]
      walk_at "go"
      refine x_ne (by simp [PV.pl]) (by simp [PV.pl]) (by simp [PV.dep]) ?_
      rw [PV.eqb_refl _ (by simp [PV.pl])]
      walk_at "go"
      exact hN' _ _ ⟨_, _, _, _, rfl, hH7, by omega⟩
    · rw [nums_length]; omega
  · intro x hx
    rw [nums_zero] at hx
    obtain ⟨i, hi, rfl⟩ := List.mem_map.mp hx
    rw [List.mem_range] at hi
    refine ⟨_, rfl, by omega, ?_⟩
    split at hi <;> omega)
end
end Lw

namespace Lw
open PySem L2 Pd
theorem all_mk {K : Frag} {h : Heap} {mg : Str → Option Value} (X : K.In h) (G : h.Ns mainGlobals mg)
    {f0 : Addr} {oc0 kV0 dc0 pm0 cd0 ct0 : Value} {od0 an0 : Option Addr} {sl0 : Array (Option Value)}
    {f1 : Addr} {oc1 kV1 dc1 pm1 cd1 ct1 : Value} {od1 an1 : Option Addr} {sl1 : Array (Option Value)}
    {f2 : Addr} {oc2 kV2 dc2 pm2 cd2 ct2 : Value} {od2 an2 : Option Addr} {sl2 : Array (Option Value)}
    {f3 : Addr} {oc3 kV3 dc3 pm3 cd3 ct3 : Value} {od3 an3 : Option Addr} {sl3 : Array (Option Value)}
    {f4 : Addr} {oc4 kV4 dc4 pm4 cd4 ct4 : Value} {od4 an4 : Option Addr} {sl4 : Array (Option Value)}
    {f5 : Addr} {oc5 kV5 dc5 pm5 cd5 ct5 : Value} {od5 an5 : Option Addr} {sl5 : Array (Option Value)}
    {f6 : Addr} {oc6 kV6 dc6 pm6 cd6 ct6 : Value} {od6 an6 : Option Addr} {sl6 : Array (Option Value)}
    {f7 : Addr} {oc7 kV7 dc7 pm7 cd7 ct7 : Value} {od7 an7 : Option Addr} {sl7 : Array (Option Value)}
    {f8 : Addr} {oc8 kV8 dc8 pm8 cd8 ct8 : Value} {od8 an8 : Option Addr} {sl8 : Array (Option Value)}
    {f9 : Addr} {oc9 kV9 dc9 pm9 cd9 ct9 : Value} {od9 an9 : Option Addr} {sl9 : Array (Option Value)}
    {f10 : Addr} {oc10 kV10 dc10 pm10 cd10 ct10 : Value} {od10 an10 : Option Addr} {sl10 : Array (Option Value)}
    {f11 : Addr} {oc11 kV11 dc11 pm11 cd11 ct11 : Value} {od11 an11 : Option Addr} {sl11 : Array (Option Value)}
    {f12 : Addr} {oc12 kV12 dc12 pm12 cd12 ct12 : Value} {od12 an12 : Option Addr} {sl12 : Array (Option Value)}
    {f13 : Addr} {oc13 kV13 dc13 pm13 cd13 ct13 : Value} {od13 an13 : Option Addr} {sl13 : Array (Option Value)}
    {f14 : Addr} {oc14 kV14 dc14 pm14 cd14 ct14 : Value} {od14 an14 : Option Addr} {sl14 : Array (Option Value)}
    (a0 : PySem.W.nsIn K mainGlobals "is_move" = some (some (.ref f0))) (l0 : K.lookup f0 = some ⟨oc0, od0, .func (PySem.W.fnOf "is_move" "is_move" (defArgs s_is_move) (defBody s_is_move) (defScope s_is_move) .none kV0 dc0 pm0 an0 cd0 ct0), sl0⟩) (c0 : PySem.W.codeIn K cd0 "is_move" = true) (k0 : PySem.W.keepIn K (.ref f0) = true)
    (a1 : PySem.W.nsIn K mainGlobals "state_behind" = some (some (.ref f1))) (l1 : K.lookup f1 = some ⟨oc1, od1, .func (PySem.W.fnOf "state_behind" "state_behind" (defArgs s_state_behind) (defBody s_state_behind) (defScope s_state_behind) .none kV1 dc1 pm1 an1 cd1 ct1), sl1⟩) (c1 : PySem.W.codeIn K cd1 "state_behind" = true) (k1 : PySem.W.keepIn K (.ref f1) = true)
    (a2 : PySem.W.nsIn K mainGlobals "with_true" = some (some (.ref f2))) (l2 : K.lookup f2 = some ⟨oc2, od2, .func (PySem.W.fnOf "with_true" "with_true" (defArgs s_with_true) (defBody s_with_true) (defScope s_with_true) .none kV2 dc2 pm2 an2 cd2 ct2), sl2⟩) (c2 : PySem.W.codeIn K cd2 "with_true" = true) (k2 : PySem.W.keepIn K (.ref f2) = true)
    (a3 : PySem.W.nsIn K mainGlobals "first_state" = some (some (.ref f3))) (l3 : K.lookup f3 = some ⟨oc3, od3, .func (PySem.W.fnOf "first_state" "first_state" (defArgs s_first_state) (defBody s_first_state) (defScope s_first_state) .none kV3 dc3 pm3 an3 cd3 ct3), sl3⟩) (c3 : PySem.W.codeIn K cd3 "first_state" = true) (k3 : PySem.W.keepIn K (.ref f3) = true)
    (a4 : PySem.W.nsIn K mainGlobals "is_done" = some (some (.ref f4))) (l4 : K.lookup f4 = some ⟨oc4, od4, .func (PySem.W.fnOf "is_done" "is_done" (defArgs s_is_done) (defBody s_is_done) (defScope s_is_done) .none kV4 dc4 pm4 an4 cd4 ct4), sl4⟩) (c4 : PySem.W.codeIn K cd4 "is_done" = true) (k4 : PySem.W.keepIn K (.ref f4) = true)
    (a5 : PySem.W.nsIn K mainGlobals "is_plan" = some (some (.ref f5))) (l5 : K.lookup f5 = some ⟨oc5, od5, .func (PySem.W.fnOf "is_plan" "is_plan" (defArgs s_is_plan) (defBody s_is_plan) (defScope s_is_plan) .none kV5 dc5 pm5 an5 cd5 ct5), sl5⟩) (c5 : PySem.W.codeIn K cd5 "is_plan" = true) (k5 : PySem.W.keepIn K (.ref f5) = true)
    (a6 : PySem.W.nsIn K mainGlobals "_law_box" = some (some (.ref f6))) (l6 : K.lookup f6 = some ⟨oc6, od6, .func (PySem.W.fnOf "_law_box" "_law_box" (defArgs s__law_box) (defBody s__law_box) (defScope s__law_box) .none kV6 dc6 pm6 an6 cd6 ct6), sl6⟩) (c6 : PySem.W.codeIn K cd6 "_law_box" = true) (k6 : PySem.W.keepIn K (.ref f6) = true)
    (a7 : PySem.W.nsIn K mainGlobals "_law_take" = some (some (.ref f7))) (l7 : K.lookup f7 = some ⟨oc7, od7, .func (PySem.W.fnOf "_law_take" "_law_take" (defArgs s__law_take) (defBody s__law_take) (defScope s__law_take) .none kV7 dc7 pm7 an7 cd7 ct7), sl7⟩) (c7 : PySem.W.codeIn K cd7 "_law_take" = true) (k7 : PySem.W.keepIn K (.ref f7) = true)
    (a8 : PySem.W.nsIn K mainGlobals "_law_pattern" = some (some (.ref f8))) (l8 : K.lookup f8 = some ⟨oc8, od8, .func (PySem.W.fnOf "_law_pattern" "_law_pattern" (defArgs s__law_pattern) (defBody s__law_pattern) (defScope s__law_pattern) .none kV8 dc8 pm8 an8 cd8 ct8), sl8⟩) (c8 : PySem.W.codeIn K cd8 "_law_pattern" = true) (k8 : PySem.W.keepIn K (.ref f8) = true)
    (a9 : PySem.W.nsIn K mainGlobals "_law_moves" = some (some (.ref f9))) (l9 : K.lookup f9 = some ⟨oc9, od9, .func (PySem.W.fnOf "_law_moves" "_law_moves" (defArgs s__law_moves) (defBody s__law_moves) (defScope s__law_moves) .none kV9 dc9 pm9 an9 cd9 ct9), sl9⟩) (c9 : PySem.W.codeIn K cd9 "_law_moves" = true) (k9 : PySem.W.keepIn K (.ref f9) = true)
    (a10 : PySem.W.nsIn K mainGlobals "_law_behind" = some (some (.ref f10))) (l10 : K.lookup f10 = some ⟨oc10, od10, .func (PySem.W.fnOf "_law_behind" "_law_behind" (defArgs s__law_behind) (defBody s__law_behind) (defScope s__law_behind) .none kV10 dc10 pm10 an10 cd10 ct10), sl10⟩) (c10 : PySem.W.codeIn K cd10 "_law_behind" = true) (k10 : PySem.W.keepIn K (.ref f10) = true)
    (a11 : PySem.W.nsIn K mainGlobals "_law_plan" = some (some (.ref f11))) (l11 : K.lookup f11 = some ⟨oc11, od11, .func (PySem.W.fnOf "_law_plan" "_law_plan" (defArgs s__law_plan) (defBody s__law_plan) (defScope s__law_plan) .none kV11 dc11 pm11 an11 cd11 ct11), sl11⟩) (c11 : PySem.W.codeIn K cd11 "_law_plan" = true) (k11 : PySem.W.keepIn K (.ref f11) = true)
    (a12 : PySem.W.nsIn K mainGlobals "_law_is_plan" = some (some (.ref f12))) (l12 : K.lookup f12 = some ⟨oc12, od12, .func (PySem.W.fnOf "_law_is_plan" "_law_is_plan" (defArgs s__law_is_plan) (defBody s__law_is_plan) (defScope s__law_is_plan) .none kV12 dc12 pm12 an12 cd12 ct12), sl12⟩) (c12 : PySem.W.codeIn K cd12 "_law_is_plan" = true) (k12 : PySem.W.keepIn K (.ref f12) = true)
    (a13 : PySem.W.nsIn K mainGlobals "_law_bent" = some (some (.ref f13))) (l13 : K.lookup f13 = some ⟨oc13, od13, .func (PySem.W.fnOf "_law_bent" "_law_bent" (defArgs s__law_bent) (defBody s__law_bent) (defScope s__law_bent) .none kV13 dc13 pm13 an13 cd13 ct13), sl13⟩) (c13 : PySem.W.codeIn K cd13 "_law_bent" = true) (k13 : PySem.W.keepIn K (.ref f13) = true)
    (a14 : PySem.W.nsIn K mainGlobals "law" = some (some (.ref f14))) (l14 : K.lookup f14 = some ⟨oc14, od14, .func (PySem.W.fnOf "law" "law" (defArgs s_law) (defBody s_law) (defScope s_law) .none kV14 dc14 pm14 an14 cd14 ct14), sl14⟩) (c14 : PySem.W.codeIn K cd14 "law" = true) (k14 : PySem.W.keepIn K (.ref f14) = true)
    (z_abs : PySem.W.nsIn K mainGlobals "abs" = some none)
    (z_all : PySem.W.nsIn K mainGlobals "all" = some none)
    (z_bool : PySem.W.nsIn K mainGlobals "bool" = some none)
    (z_enumerate : PySem.W.nsIn K mainGlobals "enumerate" = some none)
    (z_int : PySem.W.nsIn K mainGlobals "int" = some none)
    (z_isinstance : PySem.W.nsIn K mainGlobals "isinstance" = some none)
    (z_len : PySem.W.nsIn K mainGlobals "len" = some none)
    (z_list : PySem.W.nsIn K mainGlobals "list" = some none)
    (z_min : PySem.W.nsIn K mainGlobals "min" = some none)
    (z_range : PySem.W.nsIn K mainGlobals "range" = some none)
    (z_reversed : PySem.W.nsIn K mainGlobals "reversed" = some none)
    (z_str : PySem.W.nsIn K mainGlobals "str" = some none)
    (z_tuple : PySem.W.nsIn K mainGlobals "tuple" = some none) :
    Tx K mg ∧ ∀ fa : Addr, mg "law" = some (.ref fa) → ∃ fd, Fun K "law" "law" s_law fa fd := by
  refine ⟨⟨fx_mk X G a0 l0 c0 k0 fun _ _ _ _ _ _ us hl => match us, hl with | [_, _], _ => rfl,
    fx_mk X G a1 l1 c1 k1 fun _ _ _ _ _ _ us hl => match us, hl with | [_, _, _], _ => rfl,
    fx_mk X G a2 l2 c2 k2 fun _ _ _ _ _ _ us hl => match us, hl with | [_, _], _ => rfl,
    fx_mk X G a3 l3 c3 k3 fun _ _ _ _ _ _ us hl => match us, hl with | [_], _ => rfl,
    fx_mk X G a4 l4 c4 k4 fun _ _ _ _ _ _ us hl => match us, hl with | [_], _ => rfl,
    fx_mk X G a5 l5 c5 k5 fun _ _ _ _ _ _ us hl => match us, hl with | [_, _], _ => rfl,
    fx_mk X G a6 l6 c6 k6 fun _ _ _ _ _ _ us hl => match us, hl with | [_, _], _ => rfl,
    fx_mk X G a7 l7 c7 k7 fun _ _ _ _ _ _ us hl => match us, hl with | [_, _], _ => rfl,
    fx_mk X G a8 l8 c8 k8 fun _ _ _ _ _ _ us hl => match us, hl with | [_], _ => rfl,
    fx_mk X G a9 l9 c9 k9 fun _ _ _ _ _ _ us hl => match us, hl with | [_, _, _], _ => rfl,
    fx_mk X G a10 l10 c10 k10 fun _ _ _ _ _ _ us hl => match us, hl with | [_, _, _, _], _ => rfl,
    fx_mk X G a11 l11 c11 k11 fun _ _ _ _ _ _ us hl => match us, hl with | [_, _], _ => rfl,
    fx_mk X G a12 l12 c12 k12 fun _ _ _ _ _ _ us hl => match us, hl with | [_, _], _ => rfl,
    fx_mk X G a13 l13 c13 k13 fun _ _ _ _ _ _ us hl => match us, hl with | [_, _, _], _ => rfl,
    PySem.W.mg_none_of X G z_abs,
    PySem.W.mg_none_of X G z_all,
    PySem.W.mg_none_of X G z_bool,
    PySem.W.mg_none_of X G z_enumerate,
    PySem.W.mg_none_of X G z_int,
    PySem.W.mg_none_of X G z_isinstance,
    PySem.W.mg_none_of X G z_len,
    PySem.W.mg_none_of X G z_list,
    PySem.W.mg_none_of X G z_min,
    PySem.W.mg_none_of X G z_range,
    PySem.W.mg_none_of X G z_reversed,
    PySem.W.mg_none_of X G z_str,
    PySem.W.mg_none_of X G z_tuple⟩, fun fa hfa => ?_⟩
  have e := hfa.symm.trans (PySem.W.mg_of X G a14)
  cases e
  exact ⟨_, fun_mk (st := s_law) l14 c14 k14⟩
end Lw

open PySem PySem.W PyProof.Rows in
theorem PySem.Challenge.cw_webstore_k57_plans_or_not_holds : PySem.Challenge.rw_webstore_k57_plans_or_not.Holds := by
  w_on; o_law; k_head; (case hw => w_witness2)
  k_fill
  refine Pd.law_end (l := PySem.Challenge.rw_webstore_k57_plans_or_not) (k := 10) (x := "_law_script") (st := Lw.s_law) rfl rfl ⟨rfl, by decide, by decide⟩ rfl (fun _ _ _ _ _ _ _ _ => .of_eq rfl) (fun w h Y => PySem.W.kIn_of Y) ?F
  case F =>
    intro w mg h KX G
    suffices q : Lw.Tx _ mg ∧ ∀ fa : PySem.Addr, mg "law" = some (.ref fa) → ∃ fd, L2.Fun _ "law" "law" Lw.s_law fa fd from ⟨q.2, fun base _ _ fa fd hm hf => Lw.ok_law q.1 hf⟩
    refine' Lw.all_mk KX G ?a0 ?l0 ?c0 ?k0 ?a1 ?l1 ?c1 ?k1 ?a2 ?l2 ?c2 ?k2 ?a3 ?l3 ?c3 ?k3 ?a4 ?l4 ?c4 ?k4 ?a5 ?l5 ?c5 ?k5 ?a6 ?l6 ?c6 ?k6 ?a7 ?l7 ?c7 ?k7 ?a8 ?l8 ?c8 ?k8 ?a9 ?l9 ?c9 ?k9 ?a10 ?l10 ?c10 ?k10 ?a11 ?l11 ?c11 ?k11 ?a12 ?l12 ?c12 ?k12 ?a13 ?l13 ?c13 ?k13 ?a14 ?l14 ?c14 ?k14 ?z_abs ?z_all ?z_bool ?z_enumerate ?z_int ?z_isinstance ?z_len ?z_list ?z_min ?z_range ?z_reversed ?z_str ?z_tuple
    (case a0 => k_is)
    (case l0 => k_is)
    (case c0 => k_is)
    (case k0 => k_is)
    (case a1 => k_is)
    (case l1 => k_is)
    (case c1 => k_is)
    (case k1 => k_is)
    (case a2 => k_is)
    (case l2 => k_is)
    (case c2 => k_is)
    (case k2 => k_is)
    (case a3 => k_is)
    (case l3 => k_is)
    (case c3 => k_is)
    (case k3 => k_is)
    (case a4 => k_is)
    (case l4 => k_is)
    (case c4 => k_is)
    (case k4 => k_is)
    (case a5 => k_is)
    (case l5 => k_is)
    (case c5 => k_is)
    (case k5 => k_is)
    (case a6 => k_is)
    (case l6 => k_is)
    (case c6 => k_is)
    (case k6 => k_is)
    (case a7 => k_is)
    (case l7 => k_is)
    (case c7 => k_is)
    (case k7 => k_is)
    (case a8 => k_is)
    (case l8 => k_is)
    (case c8 => k_is)
    (case k8 => k_is)
    (case a9 => k_is)
    (case l9 => k_is)
    (case c9 => k_is)
    (case k9 => k_is)
    (case a10 => k_is)
    (case l10 => k_is)
    (case c10 => k_is)
    (case k10 => k_is)
    (case a11 => k_is)
    (case l11 => k_is)
    (case c11 => k_is)
    (case k11 => k_is)
    (case a12 => k_is)
    (case l12 => k_is)
    (case c12 => k_is)
    (case k12 => k_is)
    (case a13 => k_is)
    (case l13 => k_is)
    (case c13 => k_is)
    (case k13 => k_is)
    (case a14 => k_is)
    (case l14 => k_is)
    (case c14 => k_is)
    (case k14 => k_is)
    (case z_abs => k_is)
    (case z_all => k_is)
    (case z_bool => k_is)
    (case z_enumerate => k_is)
    (case z_int => k_is)
    (case z_isinstance => k_is)
    (case z_len => k_is)
    (case z_list => k_is)
    (case z_min => k_is)
    (case z_range => k_is)
    (case z_reversed => k_is)
    (case z_str => k_is)
    (case z_tuple => k_is)
#print axioms PySem.Challenge.cw_webstore_k57_plans_or_not_holds
