import PyProof.Rows.All
import Wide.All
import OpenK.AllK
import Wide.FinOn
import HandS.ForMost
import HandS.Wide
import HandS.IsInst
import HandS.Flow
import HandS.Style
import HandS.TupAny
import HandS.TupLe
import PySem.Challenge.RW_webstore_k14_what_ways_are
set_option Elab.async false
set_option linter.all false
set_option maxRecDepth 100000
set_option maxHeartbeats 4000000
/-! Data layer over HandS: a value stands for data read deep; what may change stands in a world of its own. -/
namespace Pd
open PySem L2

abbrev Frag := PySem.W.Frag
/-- the written part, and what is hidden: objects that stand still meanwhile and that nothing speaks of -/
structure Kz where
  K : Frag
  Z : Addr → Prop
/-- data; scr: a list that is locked (the script); ref: a thing by its address alone; ty: a built-in class -/
inductive PV where
  | non | bl (b : Bool) | int (i : Int) | str (x : Str) | tup (xs : List PV) | lst (xs : List PV) | scr (xs : List PV) | ref (a : Addr) | ty (n : String)
/-- things that may change -/
inductive MO where
  | lst (xs : List PV) | dct (kvs : List (Key × PV)) | ins (C : Addr) (fs : List (Str × PV))
abbrev Wd := Addr → Option MO
def wset (w : Wd) (a : Addr) (m : MO) : Wd := fun b => if b = a then some m else w b
theorem wset_same {w : Wd} {a : Addr} {m : MO} : wset w a m a = some m := by unfold wset; rw [if_pos rfl]
theorem wset_ne {w : Wd} {a b : Addr} {m : MO} (h : b ≠ a) : wset w a m b = w b := by unfold wset; rw [if_neg h]
theorem wset_wset {w : Wd} {a : Addr} {m m' : MO} : wset (wset w a m) a m' = wset w a m' := by
  funext b; unfold wset; split <;> rfl
def wdel (w : Wd) (a : Addr) : Wd := fun b => if b = a then none else w b

def WrT (K : Frag) (a : Addr) (xs : List V) : Prop :=
  ∃ (o : Obj) (its : Array Value) (n : Nat), K.lookup a = some o ∧ o.cls = .type "tuple" ∧ o.data = .seq its n ∧ its.size ≤ sizeLine ∧ Vals xs its.toList
def Tp (K : Kz) (w : Wd) (H : Hp) (a : Addr) (xs : List V) : Prop := (w a = none ∧ ¬ K.Z a ∧ H a = some (.tup xs)) ∨ WrT K.K a xs
def Lp (K : Kz) (w : Wd) (H : Hp) (a : Addr) (xs : List V) : Prop := w a = none ∧ ¬ K.Z a ∧ H a = some (.lst xs)
def WrL (K : Frag) (a : Addr) (xs : List V) : Prop :=
  ∃ (o : Obj) (its : Array Value) (n : Nat), K.lookup a = some o ∧ o.cls = .type "list" ∧ o.dict = none ∧ o.data = .seq its n ∧ its.size ≤ sizeLine ∧ Vals xs its.toList
def Zp (K : Kz) (w : Wd) (H : Hp) (a : Addr) (xs : List V) : Prop := (w a = none ∧ ¬ K.Z a ∧ Rd H a (.lst xs)) ∨ WrL K.K a xs
theorem Tp.sq {K : Kz} {w : Wd} {H : Hp} {a : Addr} {xs : List V} (h : Tp K w H a xs) : SqT K.K H a xs := by
  rcases h with ⟨_, _, h⟩ | h
  · exact SqT.of h
  · exact .inr h
theorem Lp.sq {K : Kz} {w : Wd} {H : Hp} {a : Addr} {xs : List V} (h : Lp K w H a xs) : SqL K.K H a xs := SqL.of h.2.2
theorem Zp.sq {K : Kz} {w : Wd} {H : Hp} {a : Addr} {xs : List V} (h : Zp K w H a xs) : SqL K.K H a xs := by
  rcases h with h | h
  · exact .inl h.2.2
  · exact .inr h

mutual
inductive Dn (K : Kz) (w : Wd) (H : Hp) : V → PV → Prop
  | non : Dn K w H .non .non
  | bl (b : Bool) : Dn K w H (.bl b) (.bl b)
  | int (i : Int) : Dn K w H (.int i) (.int i)
  | str (x : Str) : Dn K w H (.str x) (.str x)
  | ref (a : Addr) : Dn K w H (.ref a) (.ref a)
  | ty (n : String) : Dn K w H (.ty n) (.ty n)
  | tup {a : Addr} {xs : List V} {ds : List PV} : Tp K w H a xs → DnAll K w H xs ds → Dn K w H (.ref a) (.tup ds)
  | lst {a : Addr} {xs : List V} {ds : List PV} : Lp K w H a xs → DnAll K w H xs ds → Dn K w H (.ref a) (.lst ds)
  | scr {a : Addr} {xs : List V} {ds : List PV} : Zp K w H a xs → DnAll K w H xs ds → Dn K w H (.ref a) (.scr ds)
inductive DnAll (K : Kz) (w : Wd) (H : Hp) : List V → List PV → Prop
  | nil : DnAll K w H [] []
  | cons {v : V} {vs : List V} {d : PV} {ds : List PV} : Dn K w H v d → DnAll K w H vs ds → DnAll K w H (v :: vs) (d :: ds)
end

/-- all that doesn't change stands on -/
def Ext (w : Wd) (H : Hp) (w' : Wd) (H' : Hp) : Prop := ∀ b o, w b = none → H b = some o → w' b = none ∧ H' b = some o
theorem Ext.refl (w : Wd) (H : Hp) : Ext w H w H := fun _ _ h1 h2 => ⟨h1, h2⟩
theorem Ext.trans {w w1 w2 : Wd} {H H1 H2 : Hp} (a : Ext w H w1 H1) (b : Ext w1 H1 w2 H2) : Ext w H w2 H2 := fun c o h1 h2 =>
  b c o (a c o h1 h2).1 (a c o h1 h2).2

section
variable {K : Kz} {w w' : Wd} {H H' : Hp}
theorem Tp.ext {a : Addr} {xs : List V} (e : Ext w H w' H') (h : Tp K w H a xs) : Tp K w' H' a xs := by
  rcases h with ⟨h1, hz, h2⟩ | h
  · exact .inl ⟨(e a _ h1 h2).1, hz, (e a _ h1 h2).2⟩
  · exact .inr h
theorem Lp.ext {a : Addr} {xs : List V} (e : Ext w H w' H') (h : Lp K w H a xs) : Lp K w' H' a xs := ⟨(e a _ h.1 h.2.2).1, h.2.1, (e a _ h.1 h.2.2).2⟩
theorem Zp.ext {a : Addr} {xs : List V} (e : Ext w H w' H') (h : Zp K w H a xs) : Zp K w' H' a xs := by
  rcases h with ⟨h1, hz, h2 | ⟨o, h2⟩⟩ | h
  · exact .inl ⟨(e a _ h1 h2).1, hz, .inl (e a _ h1 h2).2⟩
  · exact .inl ⟨(e a _ h1 h2).1, hz, .inr ⟨o, (e a _ h1 h2).2⟩⟩
  · exact .inr h
mutual
theorem Dn.ext (e : Ext w H w' H') : ∀ {v : V} {d : PV}, Dn K w H v d → Dn K w' H' v d
  | _, _, .non => .non
  | _, _, .bl b => .bl b
  | _, _, .int i => .int i
  | _, _, .str x => .str x
  | _, _, .ref a => .ref a
  | _, _, .ty n => .ty n
  | _, _, .tup h r => .tup (h.ext e) (DnAll.ext e r)
  | _, _, .lst h r => .lst (h.ext e) (DnAll.ext e r)
  | _, _, .scr h r => .scr (h.ext e) (DnAll.ext e r)
theorem DnAll.ext (e : Ext w H w' H') : ∀ {vs : List V} {ds : List PV}, DnAll K w H vs ds → DnAll K w' H' vs ds
  | _, _, .nil => .nil
  | _, _, .cons h r => .cons (h.ext e) (DnAll.ext e r)
end
theorem DnAll.length : ∀ {vs : List V} {ds : List PV}, DnAll K w H vs ds → vs.length = ds.length
  | _, _, .nil => rfl
  | _, _, .cons _ r => by rw [List.length_cons, List.length_cons, DnAll.length r]
theorem DnAll.append : ∀ {vs us : List V} {ds es : List PV}, DnAll K w H vs ds → DnAll K w H us es → DnAll K w H (vs ++ us) (ds ++ es)
  | _, _, _, _, .nil, s => s
  | _, _, _, _, .cons h r, s => .cons h (DnAll.append r s)
theorem DnAll.get : ∀ {vs : List V} {ds : List PV} {i : Nat} {d : PV}, DnAll K w H vs ds → ds[i]? = some d → ∃ v, vs[i]? = some v ∧ Dn K w H v d
  | _, _, _, _, .nil, e => by simp at e
  | _, _, 0, _, .cons h _, e => by simp at e; subst e; exact ⟨_, rfl, h⟩
  | _, _, i + 1, d, .cons _ r, e => by
    obtain ⟨v, h1, h2⟩ := DnAll.get (i := i) (d := d) r (by simpa using e)
    exact ⟨v, by simpa using h1, h2⟩
theorem DnAll.get' : ∀ {vs : List V} {ds : List PV} {i : Nat} {v : V}, DnAll K w H vs ds → vs[i]? = some v → ∃ d, ds[i]? = some d ∧ Dn K w H v d
  | _, _, _, _, .nil, e => by simp at e
  | _, _, 0, _, .cons h _, e => by simp at e; subst e; exact ⟨_, rfl, h⟩
  | _, _, i + 1, v, .cons _ r, e => by
    obtain ⟨d, h1, h2⟩ := DnAll.get' (i := i) (v := v) r (by simpa using e)
    exact ⟨d, by simpa using h1, h2⟩
theorem DnAll.drop : ∀ {vs : List V} {ds : List PV} (n : Nat), DnAll K w H vs ds → DnAll K w H (vs.drop n) (ds.drop n)
  | _, _, 0, r => r
  | _, _, _ + 1, .nil => .nil
  | _, _, n + 1, .cons _ r => DnAll.drop n r
theorem DnAll.take : ∀ {vs : List V} {ds : List PV} (n : Nat), DnAll K w H vs ds → DnAll K w H (vs.take n) (ds.take n)
  | _, _, 0, _ => .nil
  | _, _, _ + 1, .nil => .nil
  | _, _, n + 1, .cons h r => .cons h (DnAll.take n r)
theorem DnAll.set {x : V} {d : PV} (h : Dn K w H x d) : ∀ {vs : List V} {ds : List PV} (i : Nat), DnAll K w H vs ds → DnAll K w H (vs.set i x) (ds.set i d)
  | _, _, _, .nil => .nil
  | _, _, 0, .cons _ r => .cons h r
  | _, _, i + 1, .cons q r => .cons q (DnAll.set h i r)
theorem DnAll.rep {vs : List V} {ds : List PV} (h : DnAll K w H vs ds) : ∀ k : Nat, DnAll K w H (List.replicate k vs).flatten (List.replicate k ds).flatten
  | 0 => .nil
  | k + 1 => by
    rw [List.replicate_succ, List.replicate_succ, List.flatten_cons, List.flatten_cons]
    exact h.append (DnAll.rep h k)
end

def KvOk (K : Kz) (w : Wd) (H : Hp) {κ : Type} : List (κ × V) → List (κ × PV) → Prop := Paired fun (p : κ × V) (q : κ × PV) => p.1 = q.1 ∧ Dn K w H p.2 q.2
inductive MOk (K : Kz) (w : Wd) (H : Hp) (a : Addr) : MO → Prop
  | lst {xs : List V} {ds : List PV} : H a = some (.lst xs) → DnAll K w H xs ds → MOk K w H a (.lst ds)
  | dct {xs : List (Key × V)} {ds : List (Key × PV)} : H a = some (.dK xs) → KvOk K w H xs ds → MOk K w H a (.dct ds)
  | ins {C dx : Addr} {xs : List (Str × V)} {ds : List (Str × PV)} : H a = some (.ins C dx xs) → KvOk K w H xs ds → MOk K w H a (.ins C ds)
structure Wk (K : Kz) (w : Wd) (H : Hp) : Prop where
  at_ : ∀ a m, w a = some m → MOk K w H a m
  zin : ∀ b, K.Z b → w b = none ∧ ∃ o, H b = some o
theorem MOk.there {K : Kz} {w : Wd} {H : Hp} {a : Addr} {m : MO} (h : MOk K w H a m) : ∃ o, H a = some o := by
  cases h with
  | lst h _ => exact ⟨_, h⟩
  | dct h _ => exact ⟨_, h⟩
  | ins h _ => exact ⟨_, h⟩
theorem Wk.off {K : Kz} {w : Wd} {H : Hp} (k : Wk K w H) {a : Addr} (h : H a = none) : w a = none := by
  cases e : w a with
  | none => rfl
  | some m =>
    obtain ⟨o, q⟩ := (k.at_ a m e).there
    rw [h] at q; cases q
theorem KvOk.ext {K : Kz} {w w' : Wd} {H H' : Hp} {κ : Type} (e : Ext w H w' H') {xs : List (κ × V)} {ds : List (κ × PV)} (h : KvOk K w H xs ds) : KvOk K w' H' xs ds :=
  L2.Paired.mapP h fun _ _ z => ⟨z.1, z.2.ext e⟩
/-- a change of the heap that leaves what may change as it is -/
theorem Wk.ext {K : Kz} {w : Wd} {H H' : Hp} (k : Wk K w H) (e : Ext w H w H') (s : ∀ a, w a ≠ none → H' a = H a) : Wk K w H' := ⟨fun a m h => by
  have ne : w a ≠ Option.none := by rw [h]; exact fun z => nomatch z
  cases k.at_ a m h with
  | lst h1 h2 => exact .lst ((s a ne).trans h1) (h2.ext e)
  | dct h1 h2 => exact .dct ((s a ne).trans h1) (h2.ext e)
  | ins h1 h2 => exact .ins ((s a ne).trans h1) (h2.ext e), fun b z => by
  obtain ⟨h1, o, h2⟩ := k.zin b z
  exact ⟨h1, o, (e b o h1 h2).2⟩⟩
theorem Wk.nz {K : Kz} {w : Wd} {H : Hp} (k : Wk K w H) {a : Addr} (h : H a = none) : ¬ K.Z a := fun z => by
  obtain ⟨_, o, q⟩ := k.zin a z
  rw [h] at q; cases q

/-- a new object that doesn't change -/
theorem Ext.new {K : Kz} {w : Wd} {H : Hp} (k : Wk K w H) {p : Addr} {o : HO} (n : H p = none) : Ext w H w (upd H p o) := fun b u h1 h2 =>
  ⟨h1, by rw [upd_ne (ne_of_none h2 n)]; exact h2⟩
theorem Wk.new {K : Kz} {w : Wd} {H : Hp} (k : Wk K w H) {p : Addr} {o : HO} (n : H p = none) : Wk K w (upd H p o) :=
  k.ext (Ext.new k n) fun a ha => by
    have q : a ≠ p := fun z => ha (by rw [z]; exact k.off n)
    rw [upd_ne q]

abbrev Sl := List (Option PV)
structure Rep (K : Kz) (ρ : Sl) (w : Wd) (σ : St) (H : Hp) : Prop where
  len : σ.length = ρ.length
  sl : ∀ (i : Nat) d, ρ[i]? = some (some d) → ∃ v, σ[i]? = some (some v) ∧ Dn K w H v d
  wk : Wk K w H
theorem Rep.ext {K : Kz} {ρ : Sl} {w w' : Wd} {σ : St} {H H' : Hp} (r : Rep K ρ w σ H) (e : Ext w H w' H') (k : Wk K w' H') : Rep K ρ w' σ H' :=
  ⟨r.len, fun i d h => by obtain ⟨v, h1, h2⟩ := r.sl i d h; exact ⟨v, h1, h2.ext e⟩, k⟩
theorem Rep.set {K : Kz} {ρ : Sl} {w : Wd} {σ : St} {H : Hp} (r : Rep K ρ w σ H) {v : V} {d : PV} (h : Dn K w H v d) (i : Nat) : Rep K (ρ.set i (some d)) w (σ.set i (some v)) H := by
  refine ⟨by simp [r.len], fun j e q => ?_, r.wk⟩
  by_cases hj : i = j
  · subst hj
    by_cases hl : i < ρ.length
    · rw [List.getElem?_set_self hl] at q
      cases q
      exact ⟨v, List.getElem?_set_self (by rw [r.len]; exact hl), h⟩
    · rw [List.getElem?_eq_none (by simp; omega)] at q
      cases q
  · rw [List.getElem?_set_ne hj] at q
    obtain ⟨u, h1, h2⟩ := r.sl j e q
    exact ⟨u, by rw [List.getElem?_set_ne hj]; exact h1, h2⟩

/-! ### readings over data -/
abbrev WQ := PV → Wd → Prop
abbrev WE := Sl → Wd → WQ → Prop
abbrev WT := Sl → Wd → (Bool → Wd → Prop) → Prop
abbrev WA := Sl → Wd → (List PV → Wd → Prop) → Prop
structure WEnds where
  nx : Sl → Wd → Prop
  rt : WQ
  bk : Sl → Wd → Prop := fun _ _ => False
  ct : Sl → Wd → Prop := fun _ _ => False
abbrev WS := WEnds → Sl → Wd → Prop
def Post (K : Kz) (w : Wd) (H : Hp) (Q : WQ) : VK := fun v H' => ∃ d w', Ext w H w' H' ∧ Wk K w' H' ∧ Dn K w' H' v d ∧ Q d w'
def PostT (K : Kz) (w : Wd) (H : Hp) (Q : Bool → Wd → Prop) : Bool → Hp → Prop := fun b H' => ∃ w', Ext w H w' H' ∧ Wk K w' H' ∧ Q b w'
def PostA (K : Kz) (w : Wd) (H : Hp) (Q : List PV → Wd → Prop) : List V → Hp → Prop := fun vs H' => ∃ ds w', Ext w H w' H' ∧ Wk K w' H' ∧ DnAll K w' H' vs ds ∧ Q ds w'
def upE (K : Frag) (t : WE) : TE := fun σ H Q => ∃ Z ρ w Q', Rep ⟨K, Z⟩ ρ w σ H ∧ t ρ w Q' ∧ ∀ v H', Post ⟨K, Z⟩ w H Q' v H' → Q v H'
def upT (K : Frag) (t : WT) : TT := fun σ H Q => ∃ Z ρ w Q', Rep ⟨K, Z⟩ ρ w σ H ∧ t ρ w Q' ∧ ∀ b H', PostT ⟨K, Z⟩ w H Q' b H' → Q b H'
def upA (K : Frag) (t : WA) : TA := fun σ H Q => ∃ Z ρ w Q', Rep ⟨K, Z⟩ ρ w σ H ∧ t ρ w Q' ∧ ∀ vs H', PostA ⟨K, Z⟩ w H Q' vs H' → Q vs H'
structure EndsOk (K : Kz) (w : Wd) (H : Hp) (E : WEnds) (D : Ends) : Prop where
  nx : ∀ σ' H' ρ' w', Ext w H w' H' → Rep K ρ' w' σ' H' → E.nx ρ' w' → D.nx σ' H'
  rt : ∀ v H', Post K w H E.rt v H' → D.rt v H'
  bk : ∀ σ' H' ρ' w', Ext w H w' H' → Rep K ρ' w' σ' H' → E.bk ρ' w' → D.bk σ' H'
  ct : ∀ σ' H' ρ' w', Ext w H w' H' → Rep K ρ' w' σ' H' → E.ct ρ' w' → D.ct σ' H'
theorem EndsOk.ext {K : Kz} {w w' : Wd} {H H' : Hp} {E : WEnds} {D : Ends} (k : EndsOk K w H E D) (e : Ext w H w' H') : EndsOk K w' H' E D :=
  ⟨fun a b c d x r q => k.nx a b c d (e.trans x) r q, fun v h ⟨d, w2, x, r⟩ => k.rt v h ⟨d, w2, e.trans x, r⟩, fun a b c d x r q => k.bk a b c d (e.trans x) r q, fun a b c d x r q => k.ct a b c d (e.trans x) r q⟩
def upS (K : Frag) (t : WS) : TS := fun D σ H => ∃ Z ρ w E, Rep ⟨K, Z⟩ ρ w σ H ∧ t E ρ w ∧ EndsOk ⟨K, Z⟩ w H E D

abbrev DE (X : Cx) (e : Expr) (t : WE) : Prop := PE X e (upE X.K t)
abbrev DT (X : Cx) (e : Expr) (t : WT) : Prop := PT X e (upT X.K t)
abbrev DW (X : Cx) (e : Expr) (t : WT) : Prop := PW X e (upT X.K t)
abbrev DA (X : Cx) (es : List Expr) (t : WA) : Prop := PA X es (upA X.K t)
abbrev DS (X : Cx) (st : Stmt) (t : WS) : Prop := PS X st (upS X.K t)
abbrev DSs (X : Cx) (st : List Stmt) (t : WS) : Prop := PSs X st (upS X.K t)

section
variable {X : Cx} {a b c e : Expr} {es : List Expr} {pos : Pos}
theorem pe_le {t t' : TE} (h : PE X e t) (hl : ∀ σ H Q, t' σ H Q → t σ H Q) : PE X e t' := ⟨fun pins s σ H Q I q => h.run pins s σ H Q I (hl σ H Q q)⟩
theorem pt_le {t t' : TT} (h : PT X e t) (hl : ∀ σ H Q, t' σ H Q → t σ H Q) : PT X e t' := ⟨fun pins s σ H Q I q => h.run pins s σ H Q I (hl σ H Q q)⟩
theorem pw_le {t t' : TT} (h : PW X e t) (hl : ∀ σ H Q, t' σ H Q → t σ H Q) : PW X e t' := ⟨fun w pins s σ H Q I q => h.run w pins s σ H Q I (hl σ H Q q)⟩
theorem pa_le {t t' : TA} (h : PA X es t) (hl : ∀ σ H Q, t' σ H Q → t σ H Q) : PA X es t' := ⟨fun p pins s σ H Q I q => h.run p pins s σ H Q I (hl σ H Q q)⟩
theorem ps_le {st : Stmt} {t t' : TS} (h : PS X st t) (hl : ∀ D σ H, t' D σ H → t D σ H) : PS X st t' := ⟨fun pins s σ H D I q => h.run pins s σ H D I (hl D σ H q)⟩
theorem pss_le {st : List Stmt} {t t' : TS} (h : PSs X st t) (hl : ∀ D σ H, t' D σ H → t D σ H) : PSs X st t' := ⟨fun pins s σ H D I q => h.run pins s σ H D I (hl D σ H q)⟩
/-- one expression, then something -/
theorem up1 {K : Frag} {Z : Addr → Prop} {ta : WE} {σ : St} {H : Hp} {ρ : Sl} {w : Wd} {Q' : WQ} {R : VK} (r : Rep ⟨K, Z⟩ ρ w σ H) (h : ta ρ w Q') (k : ∀ x H1 d w1, Ext w H w1 H1 → Rep ⟨K, Z⟩ ρ w1 σ H1 → Dn ⟨K, Z⟩ w1 H1 x d → Q' d w1 → R x H1) : upE K ta σ H R :=
  ⟨Z, ρ, w, Q', r, h, fun x H1 ⟨d, w1, e, wk, dn, q⟩ => k x H1 d w1 e (r.ext e wk) dn q⟩
theorem upT1 {K : Frag} {Z : Addr → Prop} {ta : WT} {σ : St} {H : Hp} {ρ : Sl} {w : Wd} {Q' : Bool → Wd → Prop} {R : Bool → Hp → Prop} (r : Rep ⟨K, Z⟩ ρ w σ H) (h : ta ρ w Q') (k : ∀ x H1 w1, Ext w H w1 H1 → Rep ⟨K, Z⟩ ρ w1 σ H1 → Q' x w1 → R x H1) : upT K ta σ H R :=
  ⟨Z, ρ, w, Q', r, h, fun x H1 ⟨w1, e, wk, q⟩ => k x H1 w1 e (r.ext e wk) q⟩
theorem upA1 {K : Frag} {Z : Addr → Prop} {ta : WA} {σ : St} {H : Hp} {ρ : Sl} {w : Wd} {Q' : List PV → Wd → Prop} {R : List V → Hp → Prop} (r : Rep ⟨K, Z⟩ ρ w σ H) (h : ta ρ w Q') (k : ∀ x H1 d w1, Ext w H w1 H1 → Rep ⟨K, Z⟩ ρ w1 σ H1 → DnAll ⟨K, Z⟩ w1 H1 x d → Q' d w1 → R x H1) : upA K ta σ H R :=
  ⟨Z, ρ, w, Q', r, h, fun x H1 ⟨d, w1, e, wk, dn, q⟩ => k x H1 d w1 e (r.ext e wk) dn q⟩

/-! names and constants -/
def getS (ρ : Sl) (i : Nat) (k : PV → Prop) : Prop := match ρ[i]? with
  | some (some d) => k d
  | _ => False
theorem getS_at {ρ : Sl} {i : Nat} {k : PV → Prop} (h : getS ρ i k) : ∃ d, ρ[i]? = some (some d) ∧ k d := by
  unfold getS at h
  split at h
  · rename_i d e; exact ⟨d, e, h⟩
  · exact h.elim
def wVar (i : Nat) : WE := fun ρ w Q => getS ρ i fun d => Q d w
def wC (d : PV) : WE := fun _ w Q => Q d w
theorem de_var (i : Nat) {x : Str} {pos : Pos} (hN : X.N[i]? = some x := by rfl) (hv : Vis X.env.scope x := by first | exact Or.inl rfl | exact Or.inr (Or.inl rfl) | exact Or.inr (Or.inr rfl)) (hd : (x == ("__debug__" : Str)) = false := by decide)
    (hcd : (x == ("__classdict__" : Str)) = false := by decide) : DE X (.Name x pos) (wVar i) :=
  pe_le (pe_var hN hv hd hcd) fun σ H Q ⟨Z, ρ, w, Q', r, h, k⟩ => by
    obtain ⟨d, h1, h2⟩ := getS_at h
    obtain ⟨v, h3, h4⟩ := r.sl i d h1
    exact ⟨v, h3, k v H ⟨d, w, Ext.refl _ _, r.wk, h4, h2⟩⟩
theorem de_c {v : V} {d : PV} (h : PE X e (tC v)) (hd : ∀ K w H, Dn K w H v d) : DE X e (wC d) :=
  pe_le h fun σ H Q ⟨Z, ρ, w, Q', r, h, k⟩ => k v H ⟨d, w, Ext.refl _ _, r.wk, hd _ _ _, h⟩
theorem de_int {i j pos} : DE X (.Constant (.int i) j pos) (wC (.int i)) := de_c pe_int fun _ _ _ => .int i
theorem de_bl {b j pos} : DE X (.Constant (.bool b) j pos) (wC (.bl b)) := de_c pe_bl fun _ _ _ => .bl b
theorem de_non {j pos} : DE X (.Constant .none j pos) (wC .non) := de_c pe_non fun _ _ _ => .non
theorem de_str {x j pos} : DE X (.Constant (.str x) j pos) (wC (.str x)) := de_c pe_str fun _ _ _ => .str x
/-- a module's own constant -/
theorem de_gInt {x : Str} {i : Int} {t : Tok} {pos : Pos} (hg : Gl X x) (hm : X.mg x = some (.int i t)) (hd : (x == ("__debug__" : Str)) = false := by decide) : DE X (.Name x pos) (wC (.int i)) := de_c (v := .int i) (pe_glob hg hm ⟨t, rfl⟩ hd) fun _ _ _ => .int i
theorem de_gStr {x : Str} {i : Str} {t : Tok} {pos : Pos} (hg : Gl X x) (hm : X.mg x = some (.str i t)) (hd : (x == ("__debug__" : Str)) = false := by decide) : DE X (.Name x pos) (wC (.str i)) := de_c (v := .str i) (pe_glob hg hm ⟨t, rfl⟩ hd) fun _ _ _ => .str i
/-- a written tuple of the module -/
theorem de_gTup {x : Str} {a : Addr} {xs : List V} {ds : List PV} {pos : Pos} (hg : Gl X x) (hm : X.mg x = some (.ref a)) (hw : WrT X.K a xs) (ha : ∀ Z w H, DnAll ⟨X.K, Z⟩ w H xs ds) (hd : (x == ("__debug__" : Str)) = false := by decide) : DE X (.Name x pos) (wC (.tup ds)) :=
  pe_le (pe_glob (v := .ref a) hg hm rfl hd) fun σ H Q ⟨Z, ρ, w, Q', r, h, k⟩ => k (.ref a) H ⟨.tup ds, w, Ext.refl _ _, r.wk, .tup (.inr hw) (ha _ _ _), h⟩
/-- a built-in class as a value -/
theorem de_ty {x : Str} {n : String} {pos : Pos} (hg : Gl X x) (hm : X.mg x = none) (hv : bootBuiltins x = some (.type n)) (hn : x ≠ "__name__" := by decide) (hd : (x == ("__debug__" : Str)) = false := by decide) : DE X (.Name x pos) (wC (.ty n)) :=
  de_c (v := .ty n) (pe_bltn hg hm hv rfl hn hd) fun _ _ _ => .ty n

/-! operators by values -/
abbrev R2D := PV → PV → Wd → WQ → Prop
/-- what a rule of values says, said of data -/
def L2op (K : Frag) (r : R2) (rD : R2D) : Prop := ∀ (Z : Addr → Prop) x y H dx dy w Q' (Q : VK), Wk ⟨K, Z⟩ w H → Dn ⟨K, Z⟩ w H x dx → Dn ⟨K, Z⟩ w H y dy → rD dx dy w Q' → (∀ v H', Post ⟨K, Z⟩ w H Q' v H' → Q v H') → r x y H Q
def wOp (r : R2D) (ta tb : WE) : WE := fun ρ w Q => ta ρ w fun x w1 => tb ρ w1 fun y w2 => r x y w2 Q
theorem post_trans {K : Kz} {w w1 : Wd} {H H1 : Hp} {Q : WQ} {v : V} {H' : Hp} (e : Ext w H w1 H1) (p : Post K w1 H1 Q v H') : Post K w H Q v H' := by
  obtain ⟨d, w', x, r⟩ := p
  exact ⟨d, w', e.trans x, r⟩
theorem postT_trans {K : Kz} {w w1 : Wd} {H H1 : Hp} {Q : Bool → Wd → Prop} {v : Bool} {H' : Hp} (e : Ext w H w1 H1) (p : PostT K w1 H1 Q v H') : PostT K w H Q v H' := by
  obtain ⟨w', x, r⟩ := p
  exact ⟨w', e.trans x, r⟩
theorem up_op {K : Frag} {r : R2} {rD : R2D} (hl : L2op K r rD) {ta tb : WE} {σ : St} {H : Hp} {Q : VK} (h : upE K (wOp rD ta tb) σ H Q) : tOp r (upE K ta) (upE K tb) σ H Q := by
  obtain ⟨Z, ρ, w, Q', rp, h, k⟩ := h
  refine up1 rp h fun x H1 dx w1 e1 rp1 n1 h1 => ?_
  refine up1 rp1 h1 fun y H2 dy w2 e2 rp2 n2 h2 => ?_
  exact hl Z x y H2 dx dy w2 Q' Q rp2.wk (n1.ext e2) n2 h2 fun v H' p => k v H' (post_trans (e1.trans e2) p)
theorem de_op {op : Operator} {r : R2} {rD : R2D} {ta tb : WE} (ho : OpR X (binaryOp op) r) (hl : L2op X.K r rD) (ha : DE X a ta) (hb : DE X b tb) : DE X (.BinOp a op b pos) (wOp rD ta tb) :=
  pe_le (pe_op ho ha hb) fun _ _ _ h => up_op hl h
theorem de_cmp {op : CmpOp} {r : R2} {rD : R2D} {ta tb : WE} (ho : OpR X (compareOp op) r) (hl : L2op X.K r rD) (ha : DE X a ta) (hb : DE X b tb) (hk : behindInMarks op b = false) : DE X (.Compare a [op] [b] pos) (wOp rD ta tb) :=
  pe_le (pe_cmpR ho ha hb hk) fun _ _ _ h => up_op hl h
/-- the same value again -/
theorem post_same {K : Kz} {w : Wd} {H : Hp} {Q : WQ} {v : V} {d : PV} (k : Wk K w H) (n : Dn K w H v d) (q : Q d w) : Post K w H Q v H := ⟨d, w, Ext.refl _ _, k, n, q⟩
/-- a new list, a new tuple -/
theorem post_lst {K : Kz} {w : Wd} {H : Hp} {Q : WQ} {xs : List V} {ds : List PV} {p : Addr} (k : Wk K w H) (hp : H p = none) (n : DnAll K w H xs ds) (q : Q (.lst ds) w) : Post K w H Q (.ref p) (upd H p (.lst xs)) :=
  ⟨.lst ds, w, Ext.new k hp, k.new hp, .lst ⟨k.off hp, k.nz hp, upd_same⟩ (n.ext (Ext.new k hp)), q⟩
theorem post_tup {K : Kz} {w : Wd} {H : Hp} {Q : WQ} {xs : List V} {ds : List PV} {p : Addr} (k : Wk K w H) (hp : H p = none) (n : DnAll K w H xs ds) (q : Q (.tup ds) w) : Post K w H Q (.ref p) (upd H p (.tup xs)) :=
  ⟨.tup ds, w, Ext.new k hp, k.new hp, .tup (.inl ⟨k.off hp, k.nz hp, upd_same⟩) (n.ext (Ext.new k hp)), q⟩
end
end Pd

/-! == of data at any depth -/
namespace Pd
open PySem L2

mutual
def PV.eqb : PV → PV → Bool
  | .non, .non => true
  | .bl a, .bl b => a == b
  | .bl a, .int j => (if a then 1 else 0) == j
  | .int i, .bl b => i == (if b then 1 else 0)
  | .int i, .int j => i == j
  | .str x, .str y => x == y
  | .lst xs, .lst ys => PV.eqbs xs ys
  | .tup xs, .tup ys => PV.eqbs xs ys
  | _, _ => false
def PV.eqbs : List PV → List PV → Bool
  | [], [] => true
  | x :: xs, y :: ys => PV.eqb x y && PV.eqbs xs ys
  | _, _ => false
end
mutual
def PV.dep : PV → Nat
  | .lst xs => PV.deps xs + 1
  | .tup xs => PV.deps xs + 1
  | _ => 0
def PV.deps : List PV → Nat
  | [] => 0
  | x :: xs => max (PV.dep x) (PV.deps xs)
end
mutual
/-- data alone: no thing by its address -/
def PV.pl : PV → Bool
  | .non => true
  | .bl _ => true
  | .int _ => true
  | .str _ => true
  | .lst xs => PV.pls xs
  | .tup xs => PV.pls xs
  | _ => false
def PV.pls : List PV → Bool
  | [] => true
  | x :: xs => PV.pl x && PV.pls xs
end
mutual
theorem PV.eqb_refl : ∀ d : PV, d.pl = true → PV.eqb d d = true
  | .non, _ => by simp [PV.eqb]
  | .bl _, _ => by simp [PV.eqb]
  | .int _, _ => by simp [PV.eqb]
  | .str _, _ => by simp [PV.eqb]
  | .lst xs, h => by rw [PV.eqb]; exact PV.eqbs_refl xs (by simpa [PV.pl] using h)
  | .tup xs, h => by rw [PV.eqb]; exact PV.eqbs_refl xs (by simpa [PV.pl] using h)
  | .scr _, h => by simp [PV.pl] at h
  | .ref _, h => by simp [PV.pl] at h
  | .ty _, h => by simp [PV.pl] at h
theorem PV.eqbs_refl : ∀ ds : List PV, PV.pls ds = true → PV.eqbs ds ds = true
  | [], _ => by simp [PV.eqbs]
  | x :: xs, h => by
    have h' : x.pl = true ∧ PV.pls xs = true := by simpa [PV.pls] using h
    rw [PV.eqbs, PV.eqb_refl x h'.1, PV.eqbs_refl xs h'.2]; rfl
end
abbrev prEq (xs ys : List PV) (j : Nat) : Bool := PV.eqb (xs.getD j .non) (ys.getD j .non)
theorem eqbs_range : ∀ xs ys : List PV, ((List.range (min xs.length ys.length)).all (prEq xs ys) && xs.length == ys.length) = PV.eqbs xs ys
  | [], [] => by simp [PV.eqbs]
  | [], _ :: _ => by simp [PV.eqbs]
  | _ :: _, [] => by simp [PV.eqbs]
  | x :: xs, y :: ys => by
    have ih := eqbs_range xs ys
    have e1 : min (x :: xs).length (y :: ys).length = min xs.length ys.length + 1 := by simp only [List.length_cons]; omega
    have e2 : ((x :: xs).length == (y :: ys).length) = (xs.length == ys.length) := by simp
    have e3 : (List.range (min xs.length ys.length + 1)).all (prEq (x :: xs) (y :: ys)) = (PV.eqb x y && (List.range (min xs.length ys.length)).all (prEq xs ys)) := by
      rw [List.range_succ_eq_map, List.all_cons, List.all_map]
      rfl
    rw [e1, e2, e3, PV.eqbs, ← ih, Bool.and_assoc]
theorem eqbs_same {xs ys : List PV} (h : xs.length = ys.length) : (List.range xs.length).all (prEq xs ys) = PV.eqbs xs ys := by
  have q := eqbs_range xs ys
  rw [← h, Nat.min_self, beq_self_eq_true, Bool.and_true] at q
  exact q
theorem eqbs_other {xs ys : List PV} (h : xs.length ≠ ys.length) : PV.eqbs xs ys = false := by
  rw [← eqbs_range xs ys, beq_false_of_ne h, Bool.and_false]

mutual
/-- a value of the machine that reads as data -/
inductive Rv (h : Heap) : Value → PV → Prop
  | non : Rv h .none .non
  | bl (b : Bool) : Rv h (.bool b) (.bl b)
  | int (i : Int) (t : Tok) : Rv h (.int i t) (.int i)
  | str (x : Str) (t : Tok) : Rv h (.str x t) (.str x)
  | tup {a : Addr} {us : List Value} {ds : List PV} : h.IsTuple a us.toArray → RvAll h us ds → Rv h (.ref a) (.tup ds)
  | lst {a : Addr} {us : List Value} {ds : List PV} : h.IsList a us.toArray → RvAll h us ds → Rv h (.ref a) (.lst ds)
inductive RvAll (h : Heap) : List Value → List PV → Prop
  | nil : RvAll h [] []
  | cons {u : Value} {us : List Value} {d : PV} {ds : List PV} : Rv h u d → RvAll h us ds → RvAll h (u :: us) (d :: ds)
end
theorem RvAll.length {h : Heap} : ∀ {us : List Value} {ds : List PV}, RvAll h us ds → us.length = ds.length
  | _, _, .nil => rfl
  | _, _, .cons _ r => by rw [List.length_cons, List.length_cons, RvAll.length r]
section
variable {X : Cx} {pins : List (Addr × Obj)} {σ : St} {H : Hp} {s : Shared} {w : Wd} {Z : Addr → Prop}
mutual
theorem Dn.rv (I : Inv X pins σ H s) : ∀ {v : V} {d : PV} {u : Value}, Dn ⟨X.K, Z⟩ w H v d → RelV v u → d.pl = true → Rv s.heap u d
  | _, _, _, .non, r, _ => by cases r; exact .non
  | _, _, _, .bl b, r, _ => by cases r; exact .bl b
  | _, _, _, .int i, r, _ => by obtain ⟨t, rfl⟩ := r; exact .int i t
  | _, _, _, .str x, r, _ => by obtain ⟨t, rfl⟩ := r; exact .str x t
  | _, _, _, .ref a, _, h => by simp [PV.pl] at h
  | _, _, _, .ty a, _, h => by simp [PV.pl] at h
  | _, _, _, .scr _ _, _, h => by simp [PV.pl] at h
  | _, _, _, .tup h ds, r, hp => by
    cases r
    obtain ⟨its, rv, ht, _⟩ := I.tuple h.sq
    exact .tup ht (DnAll.rv I ds rv (by simpa [PV.pl] using hp))
  | _, _, _, .lst h ds, r, hp => by
    cases r
    obtain ⟨its, rv, ht, _⟩ := I.list h.sq
    exact .lst ht.isList (DnAll.rv I ds rv (by simpa [PV.pl] using hp))
theorem DnAll.rv (I : Inv X pins σ H s) : ∀ {vs : List V} {ds : List PV} {us : List Value}, DnAll ⟨X.K, Z⟩ w H vs ds → Vals vs us → PV.pls ds = true → RvAll s.heap us ds
  | _, _, _, .nil, r, _ => by cases r; exact .nil
  | _, _, _, .cons h hr, r, hp => by
    cases r with
    | cons r rr =>
      simp only [PV.pls, Bool.and_eq_true] at hp
      exact .cons (Dn.rv I h r hp.1) (DnAll.rv I hr rr hp.2)
end
end
section
variable {h : Heap}
theorem tup_inj {a : Addr} {us vs : Array Value} (x : h.IsTuple a us) (y : h.IsTuple a vs) : us = vs := by
  obtain ⟨o, e, c, n, d⟩ := x
  obtain ⟨o', e', c', n', d'⟩ := y
  rw [e] at e'; cases e'
  rw [d] at d'
  injection d'
theorem lst_inj {a : Addr} {us vs : Array Value} (x : h.IsList a us) (y : h.IsList a vs) : us = vs := by
  obtain ⟨o, e, c, n, d⟩ := x
  obtain ⟨o', e', c', n', d'⟩ := y
  rw [e] at e'; cases e'
  rw [d] at d'
  injection d'
mutual
theorem Rv.uniq : ∀ {u : Value} {d e : PV}, Rv h u d → Rv h u e → d = e
  | _, _, _, .non, y => by cases y; rfl
  | _, _, _, .bl _, y => by cases y; rfl
  | _, _, _, .int _ _, y => by cases y; rfl
  | _, _, _, .str _ _, y => by cases y; rfl
  | _, _, _, .tup x xs, y => by
    cases y with
    | tup z zs =>
      have q : _ = _ := congrArg Array.toList (tup_inj x z)
      simp only at q
      subst q
      rw [RvAll.uniq xs zs]
    | lst z zs =>
      obtain ⟨o, e, c, _⟩ := x
      obtain ⟨o', e', c', _⟩ := z
      rw [e] at e'; cases e'; rw [c] at c'; exact absurd c' (by simp)
  | _, _, _, .lst x xs, y => by
    cases y with
    | lst z zs =>
      have q : _ = _ := congrArg Array.toList (lst_inj x z)
      simp only at q
      subst q
      rw [RvAll.uniq xs zs]
    | tup z zs =>
      obtain ⟨o, e, c, _⟩ := x
      obtain ⟨o', e', c', _⟩ := z
      rw [e] at e'; cases e'; rw [c] at c'; exact absurd c' (by simp)
theorem RvAll.uniq : ∀ {us : List Value} {ds es : List PV}, RvAll h us ds → RvAll h us es → ds = es
  | _, _, _, .nil, y => by cases y; rfl
  | _, _, _, .cons x xs, y => by
    cases y with
    | cons z zs => rw [Rv.uniq x z, RvAll.uniq xs zs]
end
end
open SeqAt in
mutual
theorem eqAt_rv : ∀ (d e : PV) (A : Around) (s : Shared) (u v : Value), Rv s.heap u d → Rv s.heap v e → d.pl = true → e.pl = true → A.units + min d.dep e.dep < cLine → EqAt A s u v (PV.eqb d e)
  | .non, e, A, s, _, _, ru, rv, _, _, hu => by
    cases ru
    cases rv with
    | non => simp only [PV.eqb]; exact EqAt.same _
    | bl c => simp only [PV.eqb]; exact EqAt.none_bool  _
    | int j t2 => simp only [PV.eqb]; exact EqAt.none_int  _ _
    | str y t2 => simp only [PV.eqb]; exact EqAt.none_str  _ _
    | tup z _ => simp only [PV.eqb]; exact EqAt.none_tuple  z (room_here hu)
    | lst z _ => simp only [PV.eqb]; exact EqAt.none_list  z (room_here hu)
  | .bl b, e, A, s, _, _, ru, rv, _, _, hu => by
    cases ru
    cases rv with
    | non => simp only [PV.eqb]; exact EqAt.bool_none _
    | bl c => simp only [PV.eqb]; exact EqAt.bool_bool _ _
    | int j t2 => simp only [PV.eqb]; exact EqAt.bool_int _ _ _
    | str y t2 => simp only [PV.eqb]; exact EqAt.bool_str _ _ _
    | tup z _ => simp only [PV.eqb]; exact EqAt.bool_tuple _ z (room_here hu)
    | lst z _ => simp only [PV.eqb]; exact EqAt.bool_list _ z (room_here hu)
  | .int i, e, A, s, _, _, ru, rv, _, _, hu => by
    cases ru
    cases rv with
    | non => simp only [PV.eqb]; exact EqAt.int_none _ _
    | bl c => simp only [PV.eqb]; exact EqAt.int_bool _ _ _
    | int j t2 => simp only [PV.eqb]; exact EqAt.int_int _ _ _ _
    | str y t2 => simp only [PV.eqb]; exact EqAt.int_str _ _ _ _
    | tup z _ => simp only [PV.eqb]; exact EqAt.int_tuple _ _ z (room_here hu)
    | lst z _ => simp only [PV.eqb]; exact EqAt.int_list _ _ z (room_here hu)
  | .str x, e, A, s, _, _, ru, rv, _, _, hu => by
    cases ru
    cases rv with
    | non => simp only [PV.eqb]; exact EqAt.str_none _ _
    | bl c => simp only [PV.eqb]; exact EqAt.str_bool _ _ _
    | int j t2 => simp only [PV.eqb]; exact EqAt.str_int _ _ _ _
    | str y t2 => simp only [PV.eqb]; exact EqAt.str_str _ _ _ _
    | tup z _ => simp only [PV.eqb]; exact EqAt.str_tuple _ _ z (room_here hu)
    | lst z _ => simp only [PV.eqb]; exact EqAt.str_list _ _ z (room_here hu)
  | .lst xs, e, A, s, _, _, ru, rv, hp, hq, hu => by
    cases ru with
    | @lst a us _ hl hr =>
      cases rv with
      | non => simp only [PV.eqb]; exact EqAt.list_none hl (room_here hu)
      | bl b => simp only [PV.eqb]; exact EqAt.list_bool _ hl (room_here hu)
      | int i t => simp only [PV.eqb]; exact EqAt.list_int _ _ hl (room_here hu)
      | str x t => simp only [PV.eqb]; exact EqAt.list_str _ _ hl (room_here hu)
      | tup hl' _ => simp only [PV.eqb]; exact EqAt.list_tuple hl hl' (room_here hu)
      | @lst a' us' ys hl' hr' =>
        have n1 := hr.length
        have n2 := hr'.length
        simp only [PV.eqb]
        by_cases ha : a = a'
        · subst ha
          have q : PV.lst xs = PV.lst ys := Rv.uniq (.lst hl hr) (.lst hl' hr')
          injection q with q
          subst q
          rw [PV.eqbs_refl xs (by simpa [PV.pl] using hp)]
          exact EqAt.same _
        · by_cases hz : us.length = us'.length
          · rw [← eqbs_same (by omega : xs.length = ys.length), ← n1]
            refine EqAt.of_refs ha ?_
            have z := RcAt.lists (e := prEq xs ys) hl hl' (by simpa using hz) (room_here hu) fun j j1 j2 => ?_
            · simpa using z
            · have z := eqAt_rvs xs ys A.in1 s us us' hr hr' (by simpa [PV.pl] using hp) (by simpa [PV.pl] using hq) (room_in (by simpa [PV.dep] using hu)) j (by simpa using j1) (by simpa using j2)
              simpa using z
          · rw [eqbs_other (by omega : xs.length ≠ ys.length)]
            exact EqAt.of_refs ha (RcAt.lists_lengths hl hl' (by simpa using hz) (room_here hu))
  | .tup xs, e, A, s, _, _, ru, rv, hp, hq, hu => by
    cases ru with
    | @tup a us _ hl hr =>
      cases rv with
      | non => simp only [PV.eqb]; exact EqAt.tuple_none hl (room_here hu)
      | bl b => simp only [PV.eqb]; exact EqAt.tuple_bool _ hl (room_here hu)
      | int i t => simp only [PV.eqb]; exact EqAt.tuple_int _ _ hl (room_here hu)
      | str x t => simp only [PV.eqb]; exact EqAt.tuple_str _ _ hl (room_here hu)
      | lst hl' _ => simp only [PV.eqb]; exact EqAt.tuple_list hl hl' (room_here hu)
      | @tup a' us' ys hl' hr' =>
        have n1 := hr.length
        have n2 := hr'.length
        simp only [PV.eqb]
        by_cases ha : a = a'
        · subst ha
          have q : PV.tup xs = PV.tup ys := Rv.uniq (.tup hl hr) (.tup hl' hr')
          injection q with q
          subst q
          rw [PV.eqbs_refl xs (by simpa [PV.pl] using hp)]
          exact EqAt.same _
        · rw [← eqbs_range xs ys, ← n1, ← n2]
          refine EqAt.of_refs ha ?_
          have z := RcAt.tuples (e := prEq xs ys) hl hl' (room_here hu) fun j j1 j2 => ?_
          · simpa using z
          · have z := eqAt_rvs xs ys A.in1 s us us' hr hr' (by simpa [PV.pl] using hp) (by simpa [PV.pl] using hq) (room_in (by simpa [PV.dep] using hu)) j (by simpa using j1) (by simpa using j2)
            simpa using z
  | .scr _, _, _, _, _, _, _, _, hp, _, _ => by simp [PV.pl] at hp
  | .ref _, _, _, _, _, _, _, _, hp, _, _ => by simp [PV.pl] at hp
  | .ty _, _, _, _, _, _, _, _, hp, _, _ => by simp [PV.pl] at hp
theorem eqAt_rvs : ∀ (ds es : List PV) (A : Around) (s : Shared) (us vs : List Value), RvAll s.heap us ds → RvAll s.heap vs es → PV.pls ds = true → PV.pls es = true → A.units + min (PV.deps ds) (PV.deps es) < cLine →
    ∀ j (h1 : j < us.length) (h2 : j < vs.length), EqAt A s us[j] vs[j] (prEq ds es j)
  | [], _, _, _, _, _, ru, _, _, _, _, j, h1, _ => by cases ru; exact absurd h1 (Nat.not_lt_zero _)
  | _ :: _, [], _, _, _, _, _, rv, _, _, _, j, _, h2 => by cases rv; exact absurd h2 (Nat.not_lt_zero _)
  | d :: ds, e :: es, A, s, _, _, ru, rv, hp, hq, hu, j, h1, h2 => by
    have hp' : d.pl = true ∧ PV.pls ds = true := by simpa [PV.pls] using hp
    have hq' : e.pl = true ∧ PV.pls es = true := by simpa [PV.pls] using hq
    cases ru with
    | cons r rs =>
      cases rv with
      | cons r' rs' =>
        cases j with
        | zero => exact eqAt_rv d e A s _ _ r r' hp'.1 hq'.1 (room_head (by simpa [PV.deps] using hu))
        | succ j => exact eqAt_rvs ds es A s _ _ rs rs' hp'.2 hq'.2 (room_tail (by simpa [PV.deps] using hu)) j (Nat.lt_of_succ_lt_succ h1) (Nat.lt_of_succ_lt_succ h2)
end
open SeqAt in
theorem rcAt_rv {d e : PV} {A : Around} {s : Shared} {u v : Value} (ru : Rv s.heap u d) (rv : Rv s.heap v e) (hp : d.pl = true) (hq : e.pl = true) (hu : A.units + min d.dep e.dep < cLine) :
    RcAt A s u v (PV.eqb d e) ∧ RcNeAt A s u v (!PV.eqb d e) := by
  have hh := room_here hu
  cases ru with
  | non =>
    cases rv with
    | non => simp only [PV.eqb]; exact ⟨RcAt.none_none, RcNeAt.none_none⟩
    | bl c => simp only [PV.eqb]; exact ⟨RcAt.none_bool  _, RcNeAt.none_bool  _⟩
    | int j t2 => simp only [PV.eqb]; exact ⟨RcAt.none_int  _ _, RcNeAt.none_int  _ _⟩
    | str y t2 => simp only [PV.eqb]; exact ⟨RcAt.none_str  _ _, RcNeAt.none_str  _ _⟩
    | tup z _ => simp only [PV.eqb]; exact ⟨RcAt.none_tuple  z hh, RcNeAt.none_tuple  z hh⟩
    | lst z _ => simp only [PV.eqb]; exact ⟨RcAt.none_list  z hh, RcNeAt.none_list  z hh⟩
  | bl b =>
    cases rv with
    | non => simp only [PV.eqb]; exact ⟨RcAt.bool_none _, RcNeAt.bool_none _⟩
    | bl c => simp only [PV.eqb]; exact ⟨RcAt.bool_bool _ _, RcNeAt.bool_bool _ _⟩
    | int j t2 => simp only [PV.eqb]; exact ⟨RcAt.bool_int _ _ _, RcNeAt.bool_int _ _ _⟩
    | str y t2 => simp only [PV.eqb]; exact ⟨RcAt.bool_str _ _ _, RcNeAt.bool_str _ _ _⟩
    | tup z _ => simp only [PV.eqb]; exact ⟨RcAt.bool_tuple _ z hh, RcNeAt.bool_tuple _ z hh⟩
    | lst z _ => simp only [PV.eqb]; exact ⟨RcAt.bool_list _ z hh, RcNeAt.bool_list _ z hh⟩
  | int i t =>
    cases rv with
    | non => simp only [PV.eqb]; exact ⟨RcAt.int_none _ _, RcNeAt.int_none _ _⟩
    | bl c => simp only [PV.eqb]; exact ⟨RcAt.int_bool _ _ _, RcNeAt.int_bool _ _ _⟩
    | int j t2 => simp only [PV.eqb]; exact ⟨RcAt.int_int _ _ _ _, RcNeAt.int_int _ _ _ _⟩
    | str y t2 => simp only [PV.eqb]; exact ⟨RcAt.int_str _ _ _ _, RcNeAt.int_str _ _ _ _⟩
    | tup z _ => simp only [PV.eqb]; exact ⟨RcAt.int_tuple _ _ z hh, RcNeAt.int_tuple _ _ z hh⟩
    | lst z _ => simp only [PV.eqb]; exact ⟨RcAt.int_list _ _ z hh, RcNeAt.int_list _ _ z hh⟩
  | str x t =>
    cases rv with
    | non => simp only [PV.eqb]; exact ⟨RcAt.str_none _ _, RcNeAt.str_none _ _⟩
    | bl c => simp only [PV.eqb]; exact ⟨RcAt.str_bool _ _ _, RcNeAt.str_bool _ _ _⟩
    | int j t2 => simp only [PV.eqb]; exact ⟨RcAt.str_int _ _ _ _, RcNeAt.str_int _ _ _ _⟩
    | str y t2 => simp only [PV.eqb]; exact ⟨RcAt.str_str _ _ _ _, RcNeAt.str_str _ _ _ _⟩
    | tup z _ => simp only [PV.eqb]; exact ⟨RcAt.str_tuple _ _ z hh, RcNeAt.str_tuple _ _ z hh⟩
    | lst z _ => simp only [PV.eqb]; exact ⟨RcAt.str_list _ _ z hh, RcNeAt.str_list _ _ z hh⟩
  | @lst a us xs hl hr =>
    cases rv with
    | non => simp only [PV.eqb]; exact ⟨RcAt.list_none hl hh, RcNeAt.list_none hl hh⟩
    | bl b => simp only [PV.eqb]; exact ⟨RcAt.list_bool _ hl hh, RcNeAt.list_bool _ hl hh⟩
    | int i t => simp only [PV.eqb]; exact ⟨RcAt.list_int _ _ hl hh, RcNeAt.list_int _ _ hl hh⟩
    | str x t => simp only [PV.eqb]; exact ⟨RcAt.list_str _ _ hl hh, RcNeAt.list_str _ _ hl hh⟩
    | tup hl' _ => simp only [PV.eqb]; exact ⟨RcAt.list_tuple hl hl' hh, RcNeAt.list_tuple hl hl' hh⟩
    | @lst a' us' ys hl' hr' =>
      have n1 := hr.length
      have n2 := hr'.length
      have he : ∀ j (j1 : j < us.toArray.size) (j2 : j < us'.toArray.size), EqAt A.in1 s us.toArray[j] us'.toArray[j] (prEq xs ys j) := fun j j1 j2 => by
        have z := eqAt_rvs xs ys A.in1 s us us' hr hr' (by simpa [PV.pl] using hp) (by simpa [PV.pl] using hq) (room_in (by simpa [PV.dep] using hu)) j (by simpa using j1) (by simpa using j2)
        simpa using z
      simp only [PV.eqb]
      by_cases hz : us.length = us'.length
      · rw [← eqbs_same (by omega : xs.length = ys.length), ← n1]
        have z1 := RcAt.lists (e := prEq xs ys) hl hl' (by simpa using hz) hh he
        have z2 := RcNeAt.lists (e := prEq xs ys) hl hl' (by simpa using hz) hh he
        exact ⟨by simpa using z1, by simpa using z2⟩
      · rw [eqbs_other (by omega : xs.length ≠ ys.length)]
        exact ⟨RcAt.lists_lengths hl hl' (by simpa using hz) hh, RcNeAt.lists_lengths hl hl' (by simpa using hz) hh⟩
  | @tup a us xs hl hr =>
    cases rv with
    | non => simp only [PV.eqb]; exact ⟨RcAt.tuple_none hl hh, RcNeAt.tuple_none hl hh⟩
    | bl b => simp only [PV.eqb]; exact ⟨RcAt.tuple_bool _ hl hh, RcNeAt.tuple_bool _ hl hh⟩
    | int i t => simp only [PV.eqb]; exact ⟨RcAt.tuple_int _ _ hl hh, RcNeAt.tuple_int _ _ hl hh⟩
    | str x t => simp only [PV.eqb]; exact ⟨RcAt.tuple_str _ _ hl hh, RcNeAt.tuple_str _ _ hl hh⟩
    | lst hl' _ => simp only [PV.eqb]; exact ⟨RcAt.tuple_list hl hl' hh, RcNeAt.tuple_list hl hl' hh⟩
    | @tup a' us' ys hl' hr' =>
      have n1 := hr.length
      have n2 := hr'.length
      have he : ∀ j (j1 : j < us.toArray.size) (j2 : j < us'.toArray.size), EqAt A.in1 s us.toArray[j] us'.toArray[j] (prEq xs ys j) := fun j j1 j2 => by
        have z := eqAt_rvs xs ys A.in1 s us us' hr hr' (by simpa [PV.pl] using hp) (by simpa [PV.pl] using hq) (room_in (by simpa [PV.dep] using hu)) j (by simpa using j1) (by simpa using j2)
        simpa using z
      simp only [PV.eqb]
      rw [← eqbs_range xs ys, ← n1, ← n2]
      have z1 := RcAt.tuples (e := prEq xs ys) hl hl' hh he
      have z2 := RcNeAt.tuples (e := prEq xs ys) hl hl' hh he
      exact ⟨by simpa using z1, by simpa using z2⟩
section
variable {X : Cx}
/-- == and != as rules of data -/
def rEqP (K : Frag) (neg : Bool) : R2 := fun x y H Q => ∃ Z w d e, Dn ⟨K, Z⟩ w H x d ∧ Dn ⟨K, Z⟩ w H y e ∧ d.pl = true ∧ e.pl = true ∧ d.dep ≤ 64 ∧ Q (.bl (if neg then !PV.eqb d e else PV.eqb d e)) H
theorem op_eqP (hu : X.A.units + 64 < cLine) : OpR X (compareOp .Eq) (rEqP X.K false) := by
  intro pins s σ H x y v u Q I rx ry h
  obtain ⟨Z, w, d, e, h1, h2, p1, p2, hd, q⟩ := h
  have z := (rcAt_rv (A := X.A) (h1.rv I rx p1) (h2.rv I ry p2) p1 p2 (by have := Nat.min_le_left d.dep e.dep; omega)).1
  exact z X.prog X.w X.xe _ ⟨.bl _, H, I, rfl, q⟩
theorem op_neP (hu : X.A.units + 64 < cLine) : OpR X (compareOp .NotEq) (rEqP X.K true) := by
  intro pins s σ H x y v u Q I rx ry h
  obtain ⟨Z, w, d, e, h1, h2, p1, p2, hd, q⟩ := h
  have z := (rcAt_rv (A := X.A) (h1.rv I rx p1) (h2.rv I ry p2) p1 p2 (by have := Nat.min_le_left d.dep e.dep; omega)).2
  exact z X.prog X.w X.xe _ ⟨.bl _, H, I, rfl, q⟩
end
end Pd

/-! operators, indexes, slices, tests over data -/
namespace Pd
open PySem L2

/-- a list that may change, read as it stands now -/
def vw (w : Wd) : PV → PV
  | .ref a => match w a with
    | some (.lst ds) => .lst ds
    | _ => .ref a
  | d => d
section
variable {K : Kz} {w : Wd} {H : Hp} {x : V} {d : PV}
theorem vwI {i : Int} (n : Dn K w H x d) (e : vw w d = .int i) : x = .int i := by
  cases n <;> simp [vw] at e
  · rw [e]
  · split at e <;> cases e
theorem vwS {i : Str} (n : Dn K w H x d) (e : vw w d = .str i) : x = .str i := by
  cases n <;> simp [vw] at e
  · rw [e]
  · split at e <;> cases e
theorem vwB {i : Bool} (n : Dn K w H x d) (e : vw w d = .bl i) : x = .bl i := by
  cases n <;> simp [vw] at e
  · rw [e]
  · split at e <;> cases e
theorem vwN (n : Dn K w H x d) (e : vw w d = .non) : x = .non := by
  cases n <;> simp [vw] at e
  · rfl
  · split at e <;> cases e
theorem vwTy {i : String} (n : Dn K w H x d) (e : vw w d = .ty i) : x = .ty i := by
  cases n <;> simp [vw] at e
  · split at e <;> cases e
  · rw [e]
theorem vwT {ds : List PV} (n : Dn K w H x d) (e : vw w d = .tup ds) : ∃ a xs, x = .ref a ∧ Tp K w H a xs ∧ DnAll K w H xs ds := by
  cases n <;> simp [vw] at e
  · split at e <;> cases e
  · subst e; exact ⟨_, _, rfl, by assumption, by assumption⟩
theorem vwL {ds : List PV} (k : Wk K w H) (n : Dn K w H x d) (e : vw w d = .lst ds) : ∃ a xs, x = .ref a ∧ H a = some (.lst xs) ∧ DnAll K w H xs ds := by
  cases n <;> simp [vw] at e
  case ref a =>
    split at e
    · rename_i z
      cases e
      cases k.at_ a _ z with
      | lst h1 h2 => exact ⟨_, _, rfl, h1, h2⟩
    · cases e
  case lst a xs es h1 h2 => subst e; exact ⟨_, _, rfl, h1.2.2, h2⟩
theorem vwZ {ds : List PV} (n : Dn K w H x d) (e : vw w d = .scr ds) : ∃ a xs, x = .ref a ∧ Zp K w H a xs ∧ DnAll K w H xs ds := by
  cases n <;> simp [vw] at e
  · split at e <;> cases e
  · subst e; exact ⟨_, _, rfl, by assumption, by assumption⟩
end
def dAdd : R2D := fun x y w Q => match vw w x, vw w y with
  | .int i, .int j => Q (.int (i + j)) w
  | .str a, .str b => a.length + b.length ≤ sizeLine ∧ Q (.str (a ++ b)) w
  | .lst a, .lst b => a.length + b.length ≤ sizeLine ∧ Q (.lst (a ++ b)) w
  | .tup a, .tup b => a.length + b.length ≤ sizeLine ∧ Q (.tup (a ++ b)) w
  | _, _ => False
def dInt (C : Int → Int → Prop) (g : Int → Int → PV) : R2D := fun x y w Q => match vw w x, vw w y with
  | .int i, .int j => C i j ∧ Q (g i j) w
  | _, _ => False
def dSub : R2D := fun x y w Q => match vw w x, vw w y with
  | .int i, .int j => Q (.int (i - j)) w
  | _, _ => False
def dMod : R2D := dInt (fun _ j => 0 < j) fun i j => .int (i % j)
def dFdiv : R2D := dInt CDivW fun i j => .int (i / j)
def dPow : R2D := dInt CPow fun i j => .int (i ^ j.toNat)
def dMul : R2D := fun x y w Q => match vw w x, vw w y with
  | .int i, .int j => (CMul i j ∨ CMulW i j) ∧ Q (.int (i * j)) w
  | .str a, .int n => MulOk a n ∧ Q (.str (Txt.mul a n)) w
  | _, _ => False
section
variable {X : Cx} {K : Frag} {a b c e : Expr} {ta tb tc : WE} {pos : Pos}
theorem opr_le {f : Value → Value → Sem Value} {r r' : R2} (h : OpR X f r) (hl : ∀ x y H Q, r' x y H Q → r x y H Q) : OpR X f r' := fun pins s σ H x y v u Q I rx ry q => h pins s σ H x y v u Q I rx ry (hl _ _ _ _ q)
theorem de_add (ha : DE X a ta) (hb : DE X b tb) : DE X (.BinOp a .Add b pos) (wOp dAdd ta tb) := by
  refine de_op (op_add.or (op_add_str.or (op_cat.or op_catA))) ?_ ha hb
  intro Z x y H dx dy w Q' Q k nx ny h kq
  unfold dAdd at h
  split at h
  · rename_i e1 e2
    cases vwI nx e1; cases vwI ny e2
    exact .inl ⟨_, _, rfl, rfl, kq _ _ (post_same k (.int _) h)⟩
  · rename_i e1 e2
    cases vwS nx e1; cases vwS ny e2
    exact .inr (.inl ⟨_, _, rfl, rfl, h.1, kq _ _ (post_same k (.str _) h.2)⟩)
  · rename_i e1 e2
    obtain ⟨a1, x1, rfl, h1, n1⟩ := vwL k nx e1
    obtain ⟨a2, x2, rfl, h2, n2⟩ := vwL k ny e2
    refine .inr (.inr (.inl ⟨a1, a2, x1, x2, rfl, rfl, h1, h2, by rw [n1.length, n2.length]; exact h.1, fun p hp => kq _ _ (post_lst k hp (n1.append n2) h.2)⟩))
  · rename_i e1 e2
    obtain ⟨a1, x1, rfl, h1, n1⟩ := vwT nx e1
    obtain ⟨a2, x2, rfl, h2, n2⟩ := vwT ny e2
    refine .inr (.inr (.inr ⟨a1, a2, x1, x2, rfl, rfl, h1.sq, h2.sq, by rw [n1.length, n2.length]; exact h.1, fun z => ?_, fun _ z => ?_, fun _ _ p hp => kq _ _ (post_tup k hp (n1.append n2) h.2)⟩))
    · subst z; cases n1; exact kq _ _ (post_same k (.tup h2 n2) h.2)
    · subst z; cases n2; exact kq _ _ (post_same k (.tup h1 n1) (by simpa using h.2))
  · exact h.elim
theorem l_int {C : Int → Int → Prop} {g : Int → Int → Int} : L2op K (rI C fun i j => V.int (g i j)) (dInt C fun i j => .int (g i j)) := by
  intro Z x y H dx dy w Q' Q k nx ny h kq
  unfold dInt at h
  split at h
  · rename_i e1 e2
    cases vwI nx e1; cases vwI ny e2
    exact ⟨_, _, rfl, rfl, h.1, kq _ _ (post_same k (.int _) h.2)⟩
  · exact h.elim
theorem de_sub (ha : DE X a ta) (hb : DE X b tb) : DE X (.BinOp a .Sub b pos) (wOp dSub ta tb) := by
  refine de_op op_sub ?_ ha hb
  intro Z x y H dx dy w Q' Q k nx ny h kq
  unfold dSub at h
  split at h
  · rename_i e1 e2
    cases vwI nx e1; cases vwI ny e2
    exact ⟨_, _, rfl, rfl, kq _ _ (post_same k (.int _) h)⟩
  · exact h.elim
theorem de_mod (ha : DE X a ta) (hb : DE X b tb) : DE X (.BinOp a .Mod b pos) (wOp dMod ta tb) := de_op op_mod l_int ha hb
theorem de_fdiv (ha : DE X a ta) (hb : DE X b tb) : DE X (.BinOp a .FloorDiv b pos) (wOp dFdiv ta tb) := de_op op_fdivW l_int ha hb
theorem de_pow (ha : DE X a ta) (hb : DE X b tb) : DE X (.BinOp a .Pow b pos) (wOp dPow ta tb) := de_op op_pow l_int ha hb
theorem op_mulS : OpR X (binaryOp .Mult) (fun x y H Q => ∃ i n, x = .str i ∧ y = .int n ∧ MulOk i n ∧ Q (.str (Txt.mul i n)) H) := by
  intro pins s σ H x y v u Q I rx ry h
  obtain ⟨i, n, rfl, rfl, hm, q⟩ := h
  obtain ⟨t, rfl⟩ := rx
  obtain ⟨t', rfl⟩ := ry
  exact SB.mul hm fun t2 k => ⟨.str _, H, I.tok _, ⟨_, rfl⟩, q⟩
theorem de_mul (ha : DE X a ta) (hb : DE X b tb) : DE X (.BinOp a .Mult b pos) (wOp dMul ta tb) := by
  refine de_op (op_mul.or (op_mulW.or op_mulS)) ?_ ha hb
  intro Z x y H dx dy w Q' Q k nx ny h kq
  unfold dMul at h
  split at h
  · rename_i e1 e2
    cases vwI nx e1; cases vwI ny e2
    rcases h.1 with z | z
    · exact .inl ⟨_, _, rfl, rfl, z, kq _ _ (post_same k (.int _) h.2)⟩
    · exact .inr (.inl ⟨_, _, rfl, rfl, z, kq _ _ (post_same k (.int _) h.2)⟩)
  · rename_i e1 e2
    cases vwS nx e1; cases vwI ny e2
    exact .inr (.inr ⟨_, _, rfl, rfl, h.1, kq _ _ (post_same k (.str _) h.2)⟩)
  · exact h.elim
/-- -a -/
def rNeg (x : PV) (w1 : Wd) (Q : WQ) : Prop := match vw w1 x with
  | .int i => Q (.int (-i)) w1
  | _ => False
def wNeg (ta : WE) : WE := fun ρ w Q => ta ρ w fun x w1 => rNeg x w1 Q
theorem de_neg (ha : DE X a ta) : DE X (.UnaryOp .USub a pos) (wNeg ta) :=
  pe_le (pe_un un_neg ha) fun σ H Q ⟨Z, ρ, w, Q', r, h, k⟩ => up1 r h fun x H1 d w1 e1 r1 n h1 => by
    unfold rNeg at h1
    split at h1
    · rename_i e
      cases vwI n e
      exact ⟨_, rfl, k _ _ (post_trans e1 (post_same r1.wk (.int _) h1))⟩
    · exact h1.elim

/-! comparisons -/
def dEq : R2D := fun x y w Q => (x.pl = true ∧ y.pl = true ∧ x.dep ≤ 64) ∧ Q (.bl (PV.eqb x y)) w
def dNe : R2D := fun x y w Q => (x.pl = true ∧ y.pl = true ∧ x.dep ≤ 64) ∧ Q (.bl (!PV.eqb x y)) w
/-- a comparison as a rule of data -/
structure CmD (X : Cx) (op : CmpOp) (rD : R2D) : Prop where
  ex : ∃ r, OpR X (compareOp op) r ∧ L2op X.K r rD
theorem de_cm {op : CmpOp} {rD : R2D} (h : CmD X op rD) (ha : DE X a ta) (hb : DE X b tb) (hk : behindInMarks op b = false) : DE X (.Compare a [op] [b] pos) (wOp rD ta tb) := by
  obtain ⟨r, ho, hl⟩ := h.ex
  exact de_cmp ho hl ha hb hk
theorem cm_eq (hu : X.A.units + 64 < cLine) : CmD X .Eq dEq := by
  refine ⟨_, op_eqP hu, ?_⟩
  intro Z x y H dx dy w Q' Q k nx ny h kq
  exact ⟨Z, w, dx, dy, nx, ny, h.1.1, h.1.2.1, h.1.2.2, kq _ _ (post_same k (.bl _) h.2)⟩
theorem cm_ne (hu : X.A.units + 64 < cLine) : CmD X .NotEq dNe := by
  refine ⟨_, op_neP hu, ?_⟩
  intro Z x y H dx dy w Q' Q k nx ny h kq
  exact ⟨Z, w, dx, dy, nx, ny, h.1.1, h.1.2.1, h.1.2.2, kq _ _ (post_same k (.bl _) h.2)⟩
/-- < and its like, of numbers and of texts -/
def dOrd (f : Int → Int → Bool) (g : List Nat → List Nat → Bool) : R2D := fun x y w Q => match vw w x, vw w y with
  | .int i, .int j => Q (.bl (f i j)) w
  | .str i, .str j => Q (.bl (g i.cps.toList j.cps.toList)) w
  | _, _ => False
def dLt : R2D := dOrd (fun i j => decide (i < j)) fun i j => decide (i < j)
def dLe : R2D := dOrd (fun i j => decide (i ≤ j)) fun i j => !decide (j < i)
def dGt : R2D := dOrd (fun i j => decide (j < i)) fun i j => decide (j < i)
def dGe : R2D := dOrd (fun i j => decide (j ≤ i)) fun i j => !decide (i < j)
theorem l_ord {f : Int → Int → Bool} {g : List Nat → List Nat → Bool} : L2op K (fun x y H Q => rI0 (fun i j => .bl (f i j)) x y H Q ∨ ∃ i j, x = .str i ∧ y = .str j ∧ Q (.bl (g i.cps.toList j.cps.toList)) H) (dOrd f g) := by
  intro Z x y H dx dy w Q' Q k nx ny h kq
  unfold dOrd at h
  split at h
  · rename_i e1 e2
    cases vwI nx e1; cases vwI ny e2
    exact .inl ⟨_, _, rfl, rfl, kq _ _ (post_same k (.bl _) h)⟩
  · rename_i e1 e2
    cases vwS nx e1; cases vwS ny e2
    exact .inr ⟨_, _, rfl, rfl, kq _ _ (post_same k (.bl _) h)⟩
  · exact h.elim
theorem cm_lt : CmD X .Lt dLt := ⟨_, op_lt.or op_lt_str, l_ord⟩
theorem cm_le : CmD X .LtE dLe := ⟨_, op_le.or op_le_str, l_ord⟩
theorem cm_gt : CmD X .Gt dGt := ⟨_, op_gt.or op_gt_str, l_ord⟩
theorem cm_ge : CmD X .GtE dGe := ⟨_, op_ge.or op_ge_str, l_ord⟩
/-- a truth -/
def onB (z : PV) (k : Bool → Prop) : Prop := match z with
  | .bl b => k b
  | _ => False
theorem onB_of {K : Kz} {w : Wd} {H : Hp} {x : V} {d : PV} {k : Bool → Prop} (n : Dn K w H x d) (h : onB d k) : ∃ b, x = .bl b ∧ d = .bl b ∧ k b := by
  cases n <;> simp [onB] at h
  exact ⟨_, rfl, rfl, h⟩
/-- a op b op c -/
def wChain (r r' : R2D) (ta tb tc : WE) : WE := fun ρ w Q => ta ρ w fun x w1 => tb ρ w1 fun y w2 => r x y w2 fun z w3 => onB z fun k => if k = true then tc ρ w3 fun u w4 => r' y u w4 Q else Q (.bl false) w3
theorem de_chain {op op' : CmpOp} {rD rD' : R2D} (c1 : CmD X op rD) (c2 : CmD X op' rD') (ha : DE X a ta) (hb : DE X b tb) (hc : DE X c tc)
    (h1 : lastMarks [op, op'] [b, c] = false := by with_unfolding_all rfl) : DE X (.Compare a [op, op'] [b, c] pos) (wChain rD rD' ta tb tc) := by
  obtain ⟨r, ho, hl⟩ := c1.ex
  obtain ⟨r', ho', hl'⟩ := c2.ex
  exact pe_le (pe_chain ho ho' ha hb hc h1) fun σ H Q ⟨Z, ρ, w, Q', r0, h, k⟩ => by
    refine up1 r0 h fun x H1 dx w1 e1 r1 n1 h1 => ?_
    refine up1 r1 h1 fun y H2 dy w2 e2 r2 n2 h2 => ?_
    refine hl Z x y H2 dx dy w2 _ _ r2.wk (n1.ext e2) n2 h2 fun z H3 ⟨dz, w3, e3, k3, n3, h3⟩ => ?_
    have r3 := r2.ext e3 k3
    obtain ⟨kb, rfl, rfl, h3⟩ := onB_of n3 h3
    refine ⟨kb, rfl, ?_⟩
    cases kb with
    | true =>
      refine iteT (up1 r3 h3 fun u H4 du w4 e4 r4 n4 h4 => ?_)
      exact hl' Z y u H4 dy du w4 _ _ r4.wk ((n2.ext e3).ext e4) n4 h4 fun v H5 p => k v H5 (post_trans (e1.trans (e2.trans (e3.trans e4))) p)
    | false => exact iteF (k _ _ (post_trans (e1.trans (e2.trans e3)) (post_same k3 (.bl _) h3)))
/-- is, is not: of None, of True and False -/
def isB (x y : PV) : Option Bool := match y with
  | .non => match x with
    | .non => some true
    | _ => some false
  | .bl b => match x with
    | .bl a => some (decide (a = b))
    | _ => none
  | _ => none
def dIs (neg : Bool) : R2D := fun x y w Q => match isB x y with
  | some k => Q (.bl (if neg then !k else k)) w
  | none => False
theorem nonIs {K : Kz} {w : Wd} {H : Hp} {x : V} {d : PV} (n : Dn K w H x d) {k : Bool} (h : isB d .non = some k) : decide (x = .non) = k := by
  cases n <;> simp [isB] at h <;> simp [h]
theorem cm_is : CmD X .Is (dIs false) := by
  refine ⟨_, op_isN.or op_isBl, ?_⟩
  intro Z x y H dx dy w Q' Q k nx ny h kq
  unfold dIs at h
  split at h
  · rename_i kk e
    cases ny with
    | non => exact .inl ⟨rfl, by rw [nonIs nx e]; exact kq _ _ (post_same k (.bl _) h)⟩
    | bl b =>
      cases nx <;> simp [isB] at e
      exact .inr ⟨_, _, rfl, rfl, by rw [e]; exact kq _ _ (post_same k (.bl _) h)⟩
    | _ => simp [isB] at e
  · exact h.elim
theorem cm_isnot : CmD X .IsNot (dIs true) := by
  refine ⟨_, op_notN.or op_notBl, ?_⟩
  intro Z x y H dx dy w Q' Q k nx ny h kq
  unfold dIs at h
  split at h
  · rename_i kk e
    cases ny with
    | non => exact .inl ⟨rfl, by rw [nonIs nx e]; exact kq _ _ (post_same k (.bl _) h)⟩
    | bl b =>
      cases nx <;> simp [isB] at e
      exact .inr ⟨_, _, rfl, rfl, by rw [e]; exact kq _ _ (post_same k (.bl _) h)⟩
    | _ => simp [isB] at e
  · exact h.elim
end
/-! in, not in -/
noncomputable def rdOf (h : Heap) (u : Value) : PV := by
  classical
  exact if e : ∃ d, Rv h u d then e.choose else .non
theorem rdOf_eq {h : Heap} {u : Value} {d : PV} (r : Rv h u d) : rdOf h u = d := by
  unfold rdOf
  have e : ∃ d, Rv h u d := ⟨d, r⟩
  rw [dif_pos e]
  exact e.choose_spec.uniq r
theorem rdOf_any {h : Heap} {f : PV → Bool} : ∀ {us : List Value} {ds : List PV}, RvAll h us ds → us.any (fun u => f (rdOf h u)) = ds.any f
  | _, _, .nil => rfl
  | _, _, .cons r rr => by rw [List.any_cons, List.any_cons, rdOf_eq r, rdOf_any rr]
theorem rvs_mem {h : Heap} : ∀ {us : List Value} {ds : List PV}, RvAll h us ds → ∀ u ∈ us, ∃ d ∈ ds, Rv h u d
  | _, _, .nil, u, hu => by cases hu
  | _, _, .cons r rr, u, hu => by
    rcases List.mem_cons.mp hu with rfl | hu
    · exact ⟨_, List.mem_cons_self, r⟩
    · obtain ⟨d, h1, h2⟩ := rvs_mem rr u hu
      exact ⟨d, List.mem_cons_of_mem _ h1, h2⟩
theorem pls_mem : ∀ {ds : List PV}, PV.pls ds = true → ∀ d ∈ ds, d.pl = true
  | [], _, d, hd => by cases hd
  | x :: xs, h, d, hd => by
    have h' : x.pl = true ∧ PV.pls xs = true := by simpa [PV.pls] using h
    rcases List.mem_cons.mp hd with rfl | hd
    · exact h'.1
    · exact pls_mem h'.2 d hd
section
variable {X : Cx} {a b : Expr} {ta tb : WE} {pos : Pos}
def rInP (K : Frag) (neg : Bool) : R2 := fun x y H Q => ∃ Z w d ys es p, Dn ⟨K, Z⟩ w H x d ∧ y = .ref p ∧ (SqL K H p ys ∨ SqT K H p ys) ∧ DnAll ⟨K, Z⟩ w H ys es ∧ d.pl = true ∧ PV.pls es = true ∧ d.dep ≤ 63 ∧ Q (.bl (if neg then !es.any (fun e => PV.eqb e d) else es.any (fun e => PV.eqb e d))) H
theorem in_items {s : Shared} {A : Around} {us : List Value} {es : List PV} {v : Value} {d : PV} (hu : A.units + 64 < cLine) (r : RvAll s.heap us es) (rd : Rv s.heap v d) (hp : d.pl = true) (hq : PV.pls es = true) (hd : d.dep ≤ 63) :
    ∀ u ∈ us.toArray, SeqAt.EqAt A.in1 s u v (PV.eqb (rdOf s.heap u) d) := fun u hm => by
  obtain ⟨e, he, re⟩ := rvs_mem r u (by simpa using hm)
  rw [rdOf_eq re]
  refine eqAt_rv e d A.in1 s u v re rd (pls_mem hq e he) hp ?_
  have h1 := Nat.min_le_right e.dep d.dep
  show A.units + 1 + min e.dep d.dep < cLine
  omega
theorem op_inP (hu : X.A.units + 64 < cLine) : OpR X (compareOp .In) (rInP X.K false) := by
  intro pins s σ H x y v u Q I rx ry h
  obtain ⟨Z, w, d, ys, es, p, hd, rfl, hq, hn, p1, p2, hz, q⟩ := h
  cases ry
  have rd := hd.rv I rx p1
  rcases hq with hq | hq
  · obtain ⟨its, r, pl, _⟩ := I.list hq
    have ra := hn.rv I r p2
    refine SeqAt.in_listAt (fun u => PV.eqb (rdOf s.heap u) d) pl.isList (in_items hu ra rd p1 p2 hz) ⟨.bl _, H, I, rfl, ?_⟩
    rw [show its.toArray.any (fun u => PV.eqb (rdOf s.heap u) d) = its.any (fun u => PV.eqb (rdOf s.heap u) d) by simp, rdOf_any (f := fun e => PV.eqb e d) ra]
    exact q
  · obtain ⟨its, r, pl, _⟩ := I.tuple hq
    have ra := hn.rv I r p2
    refine SeqAt.in_tupleAt (fun u => PV.eqb (rdOf s.heap u) d) pl (in_items hu ra rd p1 p2 hz) ⟨.bl _, H, I, rfl, ?_⟩
    rw [show its.toArray.any (fun u => PV.eqb (rdOf s.heap u) d) = its.any (fun u => PV.eqb (rdOf s.heap u) d) by simp, rdOf_any (f := fun e => PV.eqb e d) ra]
    exact q
theorem op_notInP (hu : X.A.units + 64 < cLine) : OpR X (compareOp .NotIn) (rInP X.K true) := by
  intro pins s σ H x y v u Q I rx ry h
  obtain ⟨Z, w, d, ys, es, p, hd, rfl, hq, hn, p1, p2, hz, q⟩ := h
  cases ry
  have rd := hd.rv I rx p1
  rcases hq with hq | hq
  · obtain ⟨its, r, pl, _⟩ := I.list hq
    have ra := hn.rv I r p2
    refine SeqAt.notIn_listAt (fun u => PV.eqb (rdOf s.heap u) d) pl.isList (in_items hu ra rd p1 p2 hz) ⟨.bl _, H, I, rfl, ?_⟩
    rw [show its.toArray.any (fun u => PV.eqb (rdOf s.heap u) d) = its.any (fun u => PV.eqb (rdOf s.heap u) d) by simp, rdOf_any (f := fun e => PV.eqb e d) ra]
    exact q
  · obtain ⟨its, r, pl, _⟩ := I.tuple hq
    have ra := hn.rv I r p2
    refine SeqAt.notIn_tupleAt (fun u => PV.eqb (rdOf s.heap u) d) pl (in_items hu ra rd p1 p2 hz) ⟨.bl _, H, I, rfl, ?_⟩
    rw [show its.toArray.any (fun u => PV.eqb (rdOf s.heap u) d) = its.any (fun u => PV.eqb (rdOf s.heap u) d) by simp, rdOf_any (f := fun e => PV.eqb e d) ra]
    exact q
/-- x in y: one sign in a text, data in a list or tuple of data -/
def dIn (neg : Bool) : R2D := fun x y w Q => match vw w y with
  | .str z => match x with
    | .str u => ∃ c, u = ⟨#[c]⟩ ∧ Q (.bl (if neg then !decide (c ∈ z.cps.toList) else decide (c ∈ z.cps.toList))) w
    | _ => False
  | .lst es => (x.pl = true ∧ PV.pls es = true ∧ x.dep ≤ 63) ∧ Q (.bl (if neg then !es.any (fun e => PV.eqb e x) else es.any (fun e => PV.eqb e x))) w
  | .tup es => (x.pl = true ∧ PV.pls es = true ∧ x.dep ≤ 63) ∧ Q (.bl (if neg then !es.any (fun e => PV.eqb e x) else es.any (fun e => PV.eqb e x))) w
  | _ => False
theorem cm_in (hu : X.A.units + 64 < cLine) : CmD X .In (dIn false) := by
  refine ⟨_, op_in_sign.or (op_inP hu), ?_⟩
  intro Z x y H dx dy w Q' Q k nx ny h kq
  unfold dIn at h
  split at h
  · rename_i e
    split at h
    · cases vwS ny e
      cases nx
      obtain ⟨c, rfl, h⟩ := h
      exact .inl ⟨c, _, rfl, rfl, kq _ _ (post_same k (.bl _) h)⟩
    · exact h.elim
  · rename_i e
    obtain ⟨p, ys, rfl, hh, hn⟩ := vwL k ny e
    exact .inr ⟨Z, w, dx, ys, _, p, nx, rfl, .inl (SqL.of hh), hn, h.1.1, h.1.2.1, h.1.2.2, kq _ _ (post_same k (.bl _) h.2)⟩
  · rename_i e
    obtain ⟨p, ys, rfl, hh, hn⟩ := vwT ny e
    exact .inr ⟨Z, w, dx, ys, _, p, nx, rfl, .inr hh.sq, hn, h.1.1, h.1.2.1, h.1.2.2, kq _ _ (post_same k (.bl _) h.2)⟩
  · exact h.elim
theorem cm_notin (hu : X.A.units + 64 < cLine) : CmD X .NotIn (dIn true) := by
  refine ⟨_, op_notIn_sign.or (op_notInP hu), ?_⟩
  intro Z x y H dx dy w Q' Q k nx ny h kq
  unfold dIn at h
  split at h
  · rename_i e
    split at h
    · cases vwS ny e
      cases nx
      obtain ⟨c, rfl, h⟩ := h
      exact .inl ⟨c, _, rfl, rfl, kq _ _ (post_same k (.bl _) h)⟩
    · exact h.elim
  · rename_i e
    obtain ⟨p, ys, rfl, hh, hn⟩ := vwL k ny e
    exact .inr ⟨Z, w, dx, ys, _, p, nx, rfl, .inl (SqL.of hh), hn, h.1.1, h.1.2.1, h.1.2.2, kq _ _ (post_same k (.bl _) h.2)⟩
  · rename_i e
    obtain ⟨p, ys, rfl, hh, hn⟩ := vwT ny e
    exact .inr ⟨Z, w, dx, ys, _, p, nx, rfl, .inr hh.sq, hn, h.1.1, h.1.2.1, h.1.2.2, kq _ _ (post_same k (.bl _) h.2)⟩
  · exact h.elim
end
end Pd

/-! tests, items, slices, displays, calls of built-ins, statements, loops -/
namespace Pd
open PySem L2

/-! tests -/
def wTest (t : WE) : WT := fun ρ w Q => t ρ w fun z w1 => onB z fun b => Q b w1
def wAndT (t u : WT) : WT := fun ρ w Q => t ρ w fun c w1 => if c = true then u ρ w1 Q else Q false w1
def wOrT (t u : WT) : WT := fun ρ w Q => t ρ w fun c w1 => if c = true then Q true w1 else u ρ w1 Q
def wNotT (t : WT) : WT := fun ρ w Q => t ρ w fun c w1 => Q (!c) w1
def wAndV (ta tb : WE) : WE := fun ρ w Q => ta ρ w fun x w1 => onB x fun c => if c = true then tb ρ w1 Q else Q (.bl false) w1
def wOrV (ta tb : WE) : WE := fun ρ w Q => ta ρ w fun x w1 => onB x fun c => if c = true then Q (.bl true) w1 else tb ρ w1 Q
def wNotV (ta : WE) : WE := fun ρ w Q => ta ρ w fun x w1 => onB x fun c => Q (.bl (!c)) w1
def wIfE (t : WT) (ta tb : WE) : WE := fun ρ w Q => t ρ w fun c w1 => if c = true then ta ρ w1 Q else tb ρ w1 Q
section
variable {X : Cx} {a b c e : Expr} {ta tb tc : WE} {tA tB : WT} {rest es : List Expr} {pos : Pos}
theorem dt_val (h : DE X e ta) (he : ∀ whole, isTrue e X.env whole = (do let v ← whole; standAt e.pos; holding [v] (truthy v)) := by intro _; rfl) : DT X e (wTest ta) :=
  pt_le (pt_val h he) fun σ H Q ⟨Z, ρ, w, Q', r, h, k⟩ => up1 r h fun x H1 d w1 e1 r1 n h1 => by
    obtain ⟨b, rfl, rfl, h1⟩ := onB_of n h1
    exact ⟨b, rfl, k _ _ ⟨w1, e1, r1.wk, h1⟩⟩
theorem dt_cm {op : CmpOp} {rD : R2D} (h : CmD X op rD) (ha : DE X a ta) (hb : DE X b tb) (hk : behindInMarks op b = false) : DT X (.Compare a [op] [b] pos) (wTest (wOp rD ta tb)) := by
  obtain ⟨r, ho, hl⟩ := h.ex
  refine pt_le (pt_cmpR ho ha hb hk) fun σ H Q ⟨Z, ρ, w, Q', r0, h, k⟩ => ?_
  refine up1 r0 h fun x H1 dx w1 e1 r1 n1 h1 => ?_
  refine up1 r1 h1 fun y H2 dy w2 e2 r2 n2 h2 => ?_
  refine hl Z x y H2 dx dy w2 _ _ r2.wk (n1.ext e2) n2 h2 fun z H3 ⟨dz, w3, e3, k3, n3, h3⟩ => ?_
  obtain ⟨b, rfl, rfl, h3⟩ := onB_of n3 h3
  exact ⟨b, rfl, k _ _ ⟨w3, e1.trans (e2.trans e3), k3, h3⟩⟩
theorem dt_chain {op op' : CmpOp} {rD rD' : R2D} (c1 : CmD X op rD) (c2 : CmD X op' rD') (ha : DE X a ta) (hb : DE X b tb) (hc : DE X c tc)
    (h1 : lastMarks [op, op'] [b, c] = false := by with_unfolding_all rfl) : DT X (.Compare a [op, op'] [b, c] pos) (wTest (wChain rD rD' ta tb tc)) := by
  obtain ⟨r, ho, hl⟩ := c1.ex
  obtain ⟨r', ho', hl'⟩ := c2.ex
  refine pt_le (pt_chain ho ho' ha hb hc h1) fun σ H Q ⟨Z, ρ, w, Q', r0, h, k⟩ => ?_
  refine up1 r0 h fun x H1 dx w1 e1 r1 n1 h1 => ?_
  refine up1 r1 h1 fun y H2 dy w2 e2 r2 n2 h2 => ?_
  refine hl Z x y H2 dx dy w2 _ _ r2.wk (n1.ext e2) n2 h2 fun z H3 ⟨dz, w3, e3, k3, n3, h3⟩ => ?_
  have r3 := r2.ext e3 k3
  obtain ⟨kb, rfl, rfl, h3⟩ := onB_of n3 h3
  refine ⟨kb, rfl, ?_⟩
  cases kb with
  | true =>
    refine iteT (up1 r3 h3 fun u H4 du w4 e4 r4 n4 h4 => ?_)
    refine hl' Z y u H4 dy du w4 _ _ r4.wk ((n2.ext e3).ext e4) n4 h4 fun v H5 ⟨d5, w5, e5, k5, n5, h5⟩ => ?_
    obtain ⟨b, rfl, rfl, h5⟩ := onB_of n5 h5
    exact ⟨b, rfl, k _ _ ⟨w5, e1.trans (e2.trans (e3.trans (e4.trans e5))), k5, h5⟩⟩
  | false =>
    refine iteF ?_
    have h3 : Q' false w3 := by simpa [onB] using h3
    exact ⟨false, rfl, k _ _ ⟨w3, e1.trans (e2.trans e3), k3, h3⟩⟩
theorem dw_and1 (ha : DT X a tA) : DW X (.BoolOp .And [a] pos) tA := pw_and1 ha
theorem dw_or1 (ha : DT X a tA) : DW X (.BoolOp .Or [a] pos) tA := pw_or1 ha
theorem dw_and (ha : DT X a tA) (hb : DW X (.BoolOp .And (b :: rest) pos) tB) : DW X (.BoolOp .And (a :: b :: rest) pos) (wAndT tA tB) :=
  pw_le (pw_and ha hb) fun σ H Q ⟨Z, ρ, w, Q', r, h, k⟩ => upT1 r h fun x H1 w1 e1 r1 h1 => by
    cases x with
    | true => exact iteT (upT1 r1 (by simpa using h1) fun y H2 w2 e2 r2 h2 => k _ _ ⟨w2, e1.trans e2, r2.wk, h2⟩)
    | false => exact iteF (k _ _ ⟨w1, e1, r1.wk, by simpa using h1⟩)
theorem dw_or (ha : DT X a tA) (hb : DW X (.BoolOp .Or (b :: rest) pos) tB) : DW X (.BoolOp .Or (a :: b :: rest) pos) (wOrT tA tB) :=
  pw_le (pw_or ha hb) fun σ H Q ⟨Z, ρ, w, Q', r, h, k⟩ => upT1 r h fun x H1 w1 e1 r1 h1 => by
    cases x with
    | true => exact iteT (k _ _ ⟨w1, e1, r1.wk, by simpa using h1⟩)
    | false => exact iteF (upT1 r1 (by simpa using h1) fun y H2 w2 e2 r2 h2 => k _ _ ⟨w2, e1.trans e2, r2.wk, h2⟩)
theorem dt_w (h : DW X e tA) : DT X e tA := PW.pt h
theorem dt_not (ha : DT X a tA) : DT X (.UnaryOp .Not a pos) (wNotT tA) :=
  pt_le (pt_not ha) fun σ H Q ⟨Z, ρ, w, Q', r, h, k⟩ => upT1 r h fun x H1 w1 e1 r1 h1 => k _ _ ⟨w1, e1, r1.wk, h1⟩
theorem de_one {op} (h : DE X a ta) : DE X (.BoolOp op [a] pos) ta := pe_one h
theorem de_and (ha : DE X a ta) (hb : DE X (.BoolOp .And (b :: rest) pos) tb) : DE X (.BoolOp .And (a :: b :: rest) pos) (wAndV ta tb) :=
  pe_le (pe_and ha hb) fun σ H Q ⟨Z, ρ, w, Q', r, h, k⟩ => up1 r h fun x H1 d w1 e1 r1 n h1 => by
    obtain ⟨kb, rfl, rfl, hq⟩ := onB_of n h1
    refine ⟨kb, rfl, ?_⟩
    cases kb with
    | true => exact iteT (up1 r1 (by simpa using hq) fun y H2 dy w2 e2 r2 n2 h2 => k _ _ ⟨dy, w2, e1.trans e2, r2.wk, n2, h2⟩)
    | false => exact iteF (k _ _ ⟨_, w1, e1, r1.wk, .bl _, by simpa using hq⟩)
theorem de_or (ha : DE X a ta) (hb : DE X (.BoolOp .Or (b :: rest) pos) tb) : DE X (.BoolOp .Or (a :: b :: rest) pos) (wOrV ta tb) :=
  pe_le (pe_or ha hb) fun σ H Q ⟨Z, ρ, w, Q', r, h, k⟩ => up1 r h fun x H1 d w1 e1 r1 n h1 => by
    obtain ⟨kb, rfl, rfl, hq⟩ := onB_of n h1
    refine ⟨kb, rfl, ?_⟩
    cases kb with
    | true => exact iteT (k _ _ ⟨_, w1, e1, r1.wk, .bl _, by simpa using hq⟩)
    | false => exact iteF (up1 r1 (by simpa using hq) fun y H2 dy w2 e2 r2 n2 h2 => k _ _ ⟨dy, w2, e1.trans e2, r2.wk, n2, h2⟩)
theorem de_not (ha : DE X a ta) : DE X (.UnaryOp .Not a pos) (wNotV ta) :=
  pe_le (pe_not ha) fun σ H Q ⟨Z, ρ, w, Q', r, h, k⟩ => up1 r h fun x H1 d w1 e1 r1 n h1 => by
    obtain ⟨kb, rfl, rfl, hq⟩ := onB_of n h1
    exact ⟨kb, rfl, k _ _ ⟨_, w1, e1, r1.wk, .bl _, hq⟩⟩
theorem de_ifE (hc : DT X c tA) (ha : DE X a ta) (hb : DE X b tb) : DE X (.IfExp c a b pos) (wIfE tA ta tb) :=
  pe_le (pe_ifExp hc ha hb) fun σ H Q ⟨Z, ρ, w, Q', r, h, k⟩ => upT1 r h fun x H1 w1 e1 r1 h1 => by
    cases x with
    | true => exact iteT (up1 r1 (by simpa using h1) fun y H2 dy w2 e2 r2 n2 h2 => k _ _ ⟨dy, w2, e1.trans e2, r2.wk, n2, h2⟩)
    | false => exact iteF (up1 r1 (by simpa using h1) fun y H2 dy w2 e2 r2 n2 h2 => k _ _ ⟨dy, w2, e1.trans e2, r2.wk, n2, h2⟩)

/-! items -/
def dIx : R2D := fun x y w Q => match vw w x, y with
  | .lst ds, .int i => ∃ d, atI ds i = some d ∧ Q d w
  | .tup ds, .int i => ∃ d, atI ds i = some d ∧ Q d w
  | .scr ds, .int i => ∃ d, atI ds i = some d ∧ Q d w
  | .str z, .int i => z.length ≤ sizeLine ∧ ∃ c, atI z.cps.toList i = some c ∧ Q (.str ⟨#[c]⟩) w
  | _, _ => False
theorem atI_dn {K : Kz} {w : Wd} {H : Hp} {vs : List V} {ds : List PV} {i : Int} {d : PV} (n : DnAll K w H vs ds) (h : atI ds i = some d) : ∃ v, atI vs i = some v ∧ Dn K w H v d := by
  unfold atI at h ⊢
  rw [n.length]
  cases e : ixN ds.length i with
  | none => rw [e] at h; cases h
  | some j =>
    rw [e] at h
    obtain ⟨v, h1, h2⟩ := n.get (show ds[j]? = some d from h)
    exact ⟨v, h1, h2⟩
theorem de_ix (ha : DE X a ta) (hb : DE X b tb) (hs : PlainIx b := by exact fun _ _ => rfl) : DE X (.Subscript a b pos) (wOp dIx ta tb) := by
  refine pe_le (pe_ix ix_seq ha hb hs) fun _ _ _ h => up_op (rD := dIx) ?_ h
  intro Z x y H dx dy w Q' Q k nx ny h kq
  unfold dIx at h
  split at h
  · rename_i e
    cases ny
    obtain ⟨p, ys, rfl, hh, hn⟩ := vwL k nx e
    obtain ⟨d, hd, q⟩ := h
    obtain ⟨v, h1, h2⟩ := atI_dn hn hd
    exact .inl ⟨p, ys, _, v, rfl, rfl, SqL.of hh, h1, kq _ _ (post_same k h2 q)⟩
  · rename_i e
    cases ny
    obtain ⟨p, ys, rfl, hh, hn⟩ := vwT nx e
    obtain ⟨d, hd, q⟩ := h
    obtain ⟨v, h1, h2⟩ := atI_dn hn hd
    exact .inr (.inl ⟨p, ys, _, v, rfl, rfl, hh.sq, h1, kq _ _ (post_same k h2 q)⟩)
  · rename_i e
    cases ny
    obtain ⟨p, ys, rfl, hh, hn⟩ := vwZ nx e
    obtain ⟨d, hd, q⟩ := h
    obtain ⟨v, h1, h2⟩ := atI_dn hn hd
    exact .inl ⟨p, ys, _, v, rfl, rfl, hh.sq, h1, kq _ _ (post_same k h2 q)⟩
  · rename_i e
    cases ny
    cases vwS nx e
    obtain ⟨hz, c, hc, q⟩ := h
    exact .inr (.inr ⟨_, _, c, rfl, rfl, hz, hc, kq _ _ (post_same k (.str _) q)⟩)
  · exact h.elim
end
/-! slices -/
abbrev WO := Sl → Wd → (Option Int → Wd → Prop) → Prop
def upO (K : Frag) (t : WO) : TO := fun σ H Q => ∃ Z ρ w Q', Rep ⟨K, Z⟩ ρ w σ H ∧ t ρ w Q' ∧ ∀ o H' w', Ext w H w' H' → Wk ⟨K, Z⟩ w' H' → Q' o w' → Q o H'
abbrev DO (X : Cx) (e : Option Expr) (t : WO) : Prop := PO X e (upO X.K t)
def wNo : WO := fun _ w Q => Q none w
def onI (x : PV) (k : Int → Prop) : Prop := match x with
  | .int i => k i
  | _ => False
def wPart (t : WE) : WO := fun ρ w Q => t ρ w fun x w1 => onI x fun i => Q (some i) w1
/-- the part of a list -/
def cutD {α : Type} (xs : List α) (lo hi : Option Int) : List α := (xs.drop (HT.sIx xs.length 0 lo)).take (HT.sIx xs.length xs.length hi - HT.sIx xs.length 0 lo)
def rSl (l u : Option Int) (x : PV) (w3 : Wd) (Q : WQ) : Prop := match vw w3 x with
  | .lst ds => Q (.lst (cutD ds l u)) w3
  | .scr ds => Q (.lst (cutD ds l u)) w3
  | .tup ds => Q (.tup (cutD ds l u)) w3
  | .str z => z.length ≤ sizeLine ∧ Q (.str (cutS z l u)) w3
  | _ => False
def wSl (te : WE) (tl th : WO) : WE := fun ρ w Q => te ρ w fun x w1 => tl ρ w1 fun l w2 => th ρ w2 fun u w3 => rSl l u x w3 Q
theorem DnAll.cut {K : Kz} {w : Wd} {H : Hp} {vs : List V} {ds : List PV} (n : DnAll K w H vs ds) (lo hi : Option Int) : DnAll K w H (cutV vs lo hi) (cutD ds lo hi) := by
  unfold cutV cutD
  rw [n.length]
  exact (n.drop _).take _
section
variable {X : Cx} {a b c e : Expr} {lo hi : Option Expr} {ta tb te : WE} {tl th : WO} {tA tB : WT} {rest es : List Expr} {pos p2 : Pos}
theorem do_none : DO X none wNo := ⟨fun pins s σ H Q I h => (po_none (X := X)).run pins s σ H Q I (by
  obtain ⟨Z, ρ, w, Q', r, h, k⟩ := h
  exact k _ _ w (Ext.refl _ _) r.wk h)⟩
theorem do_some (h : DE X e te) : DO X (some e) (wPart te) := ⟨fun pins s σ H Q I hh => (po_some h).run pins s σ H Q I (by
  obtain ⟨Z, ρ, w, Q', r, h, k⟩ := hh
  refine up1 r h fun x H1 d w1 e1 r1 n h1 => ?_
  cases n with
  | int i => exact ⟨i, rfl, k _ _ w1 e1 r1.wk h1⟩
  | _ => exact h1.elim)⟩
theorem de_slice (he : DE X e te) (hl : DO X lo tl) (hu : DO X hi th) : DE X (.Subscript e (.Slice lo hi none p2) pos) (wSl te tl th) := by
  refine pe_le (pe_slice (sl_list.or (sl_tupA.or sl_str)) he hl hu) fun σ H Q ⟨Z, ρ, w, Q', r, h, k⟩ => ?_
  refine up1 r h fun x H1 d w1 e1 r1 n1 h1 => ?_
  refine ⟨Z, ρ, w1, _, r1, h1, fun l H2 w2 e2 k2 h2 => ?_⟩
  have r2 := r1.ext e2 k2
  refine ⟨Z, ρ, w2, _, r2, h2, fun u H3 w3 e3 k3 h3 => ?_⟩
  have n3 := (n1.ext e2).ext e3
  have e13 := e1.trans (e2.trans e3)
  unfold rSl at h3
  split at h3
  · rename_i e
    obtain ⟨p, ys, rfl, hh, hn⟩ := vwL k3 n3 e
    exact .inl ⟨p, ys, rfl, SqL.of hh, fun q hq => k _ _ (post_trans e13 (post_lst k3 hq (hn.cut l u) h3))⟩
  · rename_i e
    obtain ⟨p, ys, rfl, hh, hn⟩ := vwZ n3 e
    exact .inl ⟨p, ys, rfl, hh.sq, fun q hq => k _ _ (post_trans e13 (post_lst k3 hq (hn.cut l u) h3))⟩
  · rename_i ds e
    obtain ⟨p, ys, rfl, hh, hn⟩ := vwT n3 e
    refine .inr (.inl ⟨p, ys, rfl, hh.sq, fun z => ?_, fun _ q hq => k _ _ (post_trans e13 (post_tup k3 hq (hn.cut l u) h3))⟩)
    have w1 : cutD ds l u = ds := by
      unfold cutD
      rw [← hn.length, z.1, z.2, List.drop_zero, hn.length, Nat.sub_zero, List.take_length]
    rw [w1] at h3
    exact k _ _ (post_trans e13 (post_same k3 (.tup hh hn) h3))
  · rename_i e
    cases vwS n3 e
    exact .inr (.inr ⟨_, rfl, h3.1, k _ _ (post_trans e13 (post_same k3 (.str _) h3.2))⟩)
  · exact h3.elim

/-! argument lists, displays -/
def wNil : WA := fun _ w Q => Q [] w
def wCons (ta : WE) (tr : WA) : WA := fun ρ w Q => ta ρ w fun x w1 => tr ρ w1 fun xs w2 => Q (x :: xs) w2
theorem da_nil : DA X [] wNil := pa_le pa_nil fun σ H Q ⟨Z, ρ, w, Q', r, h, k⟩ => k _ _ ⟨[], w, Ext.refl _ _, r.wk, .nil, h⟩
theorem da_cons {t : WA} (ha : DE X e te) (hr : DA X es t) (hs : starEach (e :: es) X.env = (false, eval e X.env) :: starEach es X.env := by rfl) : DA X (e :: es) (wCons te t) :=
  pa_le (pa_cons ha hr hs) fun σ H Q ⟨Z, ρ, w, Q', r, h, k⟩ => up1 r h fun x H1 d w1 e1 r1 n1 h1 => upA1 r1 h1 fun xs H2 ds w2 e2 r2 n2 h2 => k _ _ ⟨_, w2, e1.trans e2, r2.wk, .cons (n1.ext e2) n2, h2⟩
def wTup (t : WA) : WE := fun ρ w Q => t ρ w fun xs w1 => xs.length ≤ sizeLine ∧ Q (.tup xs) w1
def wLst (t : WA) : WE := fun ρ w Q => t ρ w fun xs w1 => xs.length ≤ sizeLine ∧ Q (.lst xs) w1
theorem de_tup {x1} {t : WA} (h : DA X es t) : DE X (.Tuple es x1 pos) (wTup t) :=
  pe_le (pe_tup h) fun σ H Q ⟨Z, ρ, w, Q', r, h, k⟩ => upA1 r h fun xs H1 ds w1 e1 r1 n1 h1 => ⟨by rw [n1.length]; exact h1.1, fun p hp => k _ _ (post_trans e1 (post_tup r1.wk hp n1 h1.2))⟩
theorem de_lst {t : WA} (h : DA X es t) : DE X (.List es pos) (wLst t) :=
  pe_le (pe_lst h) fun σ H Q ⟨Z, ρ, w, Q', r, h, k⟩ => upA1 r h fun xs H1 ds w1 e1 r1 n1 h1 => ⟨by rw [n1.length]; exact h1.1, fun p hp => k _ _ (post_trans e1 (post_lst r1.wk hp n1 h1.2))⟩

/-! a new list that may change: its own thing in the world -/
theorem post_mlst {K : Kz} {w : Wd} {H : Hp} {Q : WQ} {xs : List V} {ds : List PV} {p : Addr} (k : Wk K w H) (hp : H p = none) (n : DnAll K w H xs ds) (q : ∀ p, w p = none → Q (.ref p) (wset w p (.lst ds))) : Post K w H Q (.ref p) (upd H p (.lst xs)) := by
  have e : Ext w H (wset w p (.lst ds)) (upd H p (.lst xs)) := fun b o h1 h2 => by
    have q : b ≠ p := ne_of_none h2 hp
    exact ⟨by rw [wset_ne q]; exact h1, by rw [upd_ne q]; exact h2⟩
  refine ⟨.ref p, _, e, ⟨fun a m h => ?_, fun b z => ?_⟩, .ref p, q p (k.off hp)⟩
  rotate_left
  · obtain ⟨h1, o, h2⟩ := k.zin b z
    exact ⟨(e b o h1 h2).1, o, (e b o h1 h2).2⟩
  by_cases ha : a = p
  · subst ha
    rw [wset_same] at h
    cases h
    exact .lst upd_same (n.ext e)
  · rw [wset_ne ha] at h
    have hh : upd H p (.lst xs) a = H a := upd_ne ha
    cases k.at_ a m h with
    | lst h1 h2 => exact .lst (hh.trans h1) (h2.ext e)
    | dct h1 h2 => exact .dct (hh.trans h1) (h2.ext e)
    | ins h1 h2 => exact .ins (hh.trans h1) (h2.ext e)
def wMLst (t : WA) : WE := fun ρ w Q => t ρ w fun xs w1 => xs.length ≤ sizeLine ∧ ∀ p, w1 p = none → Q (.ref p) (wset w1 p (.lst xs))
theorem de_mlst {t : WA} (h : DA X es t) : DE X (.List es pos) (wMLst t) :=
  pe_le (pe_lst h) fun σ H Q ⟨Z, ρ, w, Q', r, h, k⟩ => upA1 r h fun xs H1 ds w1 e1 r1 n1 h1 => ⟨by rw [n1.length]; exact h1.1, fun p hp => k _ _ (post_trans e1 (post_mlst r1.wk hp n1 h1.2))⟩
end
end Pd

/-! calls, statements, loops, comprehensions -/
namespace Pd
open PySem L2

/-! built-ins by values -/
abbrev RcD := List PV → Wd → WQ → Prop
structure CaD (X : Cx) (f : Value) (rD : RcD) : Prop where
  ex : ∃ r, CallR X f r ∧ ∀ (Z : Addr → Prop) xs H ds w Q' (Q : VK), Wk ⟨X.K, Z⟩ w H → DnAll ⟨X.K, Z⟩ w H xs ds → rD ds w Q' → (∀ v H', Post ⟨X.K, Z⟩ w H Q' v H' → Q v H') → r xs H Q
def wCB (r : RcD) (t : WA) : WE := fun ρ w Q => t ρ w fun ds w1 => r ds w1 Q
section
variable {X : Cx} {x : Str} {p pos : Pos} {e : Expr} {es : List Expr} {t : WA} {nid T : String} {r : RcD}
theorem up_call {K : Frag} {r0 : List V → Hp → VK → Prop} {rD : RcD} (hl : ∀ (Z : Addr → Prop) xs H ds w Q' (Q : VK), Wk ⟨K, Z⟩ w H → DnAll ⟨K, Z⟩ w H xs ds → rD ds w Q' → (∀ v H', Post ⟨K, Z⟩ w H Q' v H' → Q v H') → r0 xs H Q) {t : WA} {σ : St} {H : Hp} {Q : VK}
    (h : upE K (wCB rD t) σ H Q) : tCB r0 (upA K t) σ H Q := by
  obtain ⟨Z, ρ, w, Q', rp, h, k⟩ := h
  exact upA1 rp h fun xs H1 ds w1 e1 r1 n1 h1 => hl Z xs H1 ds w1 Q' Q r1.wk n1 h1 fun v H' p => k v H' (post_trans e1 p)
theorem de_callB (hc : CaD X (.builtin nid) r) (hg : Gl X x) (hm : X.mg x = none) (hv : bootBuiltins x = some (.builtin nid)) (ha : DA X (e :: es) t) (hn : x ≠ "__name__" := by decide) (hdb : (x == ("__debug__" : Str)) = false := by decide)
    (he : starEach (e :: es) X.env = (false, eval e X.env) :: starEach es X.env := by rfl) (hpl : (backTo pos (starEach es X.env)).any (·.1) = false := by rfl) : DE X (.Call (.Name x p) (e :: es) [] pos) (wCB r t) := by
  obtain ⟨r0, h1, h2⟩ := hc.ex
  exact pe_le (pe_callB h1 hg hm hv ha hn hdb he hpl) fun _ _ _ h => up_call h2 h
theorem de_callTy (hc : CaD X (.type T) r) (hg : Gl X x) (hm : X.mg x = none) (hv : bootBuiltins x = some (.type T)) (ha : DA X (e :: es) t) (hn : x ≠ "__name__" := by decide) (hdb : (x == ("__debug__" : Str)) = false := by decide)
    (he : starEach (e :: es) X.env = (false, eval e X.env) :: starEach es X.env := by rfl) (hpl : (backTo pos (starEach es X.env)).any (·.1) = false := by rfl) : DE X (.Call (.Name x p) (e :: es) [] pos) (wCB r t) := by
  obtain ⟨r0, h1, h2⟩ := hc.ex
  exact pe_le (pe_callTy h1 hg hm hv ha hn hdb he hpl) fun _ _ _ h => up_call h2 h
theorem dall1 {K : Kz} {w : Wd} {H : Hp} {xs : List V} {d : PV} (n : DnAll K w H xs [d]) : ∃ v, xs = [v] ∧ Dn K w H v d := by
  cases n with
  | cons h r => cases r; exact ⟨_, rfl, h⟩
theorem dall2 {K : Kz} {w : Wd} {H : Hp} {xs : List V} {d e : PV} (n : DnAll K w H xs [d, e]) : ∃ v u, xs = [v, u] ∧ Dn K w H v d ∧ Dn K w H u e := by
  cases n with
  | cons h r =>
    obtain ⟨u, rfl, h2⟩ := dall1 r
    exact ⟨_, u, rfl, h, h2⟩
/-- len -/
def cLen : RcD := fun ds w Q => match ds with
  | [x] => match vw w x with
    | .lst es => Q (.int es.length) w
    | .tup es => Q (.int es.length) w
    | .scr es => Q (.int es.length) w
    | .str z => z.length ≤ sizeLine ∧ Q (.int z.length) w
    | _ => False
  | _ => False
theorem ca_len : CaD X (.builtin "len") cLen := by
  refine ⟨_, call_len_seq.or call_len_str, fun Z xs H ds w Q' Q k n h kq => ?_⟩
  unfold cLen at h
  split at h
  · obtain ⟨v, rfl, n1⟩ := dall1 n
    split at h
    · rename_i e
      obtain ⟨p, ys, rfl, hh, hn⟩ := vwL k n1 e
      exact .inl ⟨p, ys, rfl, .inl (SqL.of hh), by rw [hn.length]; exact kq _ _ (post_same k (.int _) h)⟩
    · rename_i e
      obtain ⟨p, ys, rfl, hh, hn⟩ := vwT n1 e
      exact .inl ⟨p, ys, rfl, .inr hh.sq, by rw [hn.length]; exact kq _ _ (post_same k (.int _) h)⟩
    · rename_i e
      obtain ⟨p, ys, rfl, hh, hn⟩ := vwZ n1 e
      exact .inl ⟨p, ys, rfl, .inl hh.sq, by rw [hn.length]; exact kq _ _ (post_same k (.int _) h)⟩
    · rename_i e
      cases vwS n1 e
      exact .inr ⟨_, rfl, h.1, kq _ _ (post_same k (.int _) h.2)⟩
    · exact h.elim
  · exact h.elim
/-- abs, max and min of two, int, ord -/
def cAbs : RcD := fun ds w Q => match ds with
  | [.int i] => Q (.int (if i < 0 then -i else i)) w
  | _ => False
theorem ca_abs : CaD X (.builtin "abs") cAbs := by
  refine ⟨_, call_abs, fun Z xs H ds w Q' Q k n h kq => ?_⟩
  unfold cAbs at h
  split at h
  · obtain ⟨v, rfl, n1⟩ := dall1 n
    cases n1
    exact ⟨_, rfl, kq _ _ (post_same k (.int _) h)⟩
  · exact h.elim
def cMax2 : RcD := fun ds w Q => match ds with
  | [.int i, .int j] => Q (.int (if j > i then j else i)) w
  | _ => False
theorem ca_max2 (hc : X.calm = true) : CaD X (.builtin "max") cMax2 := by
  refine ⟨_, call_max2 hc, fun Z xs H ds w Q' Q k n h kq => ?_⟩
  unfold cMax2 at h
  split at h
  · obtain ⟨v, u, rfl, n1, n2⟩ := dall2 n
    cases n1; cases n2
    exact ⟨_, _, rfl, kq _ _ (post_same k (.int _) h)⟩
  · exact h.elim
def cMin2 : RcD := fun ds w Q => match ds with
  | [.int i, .int j] => Q (.int (if j < i then j else i)) w
  | _ => False
theorem ca_min2 (hc : X.calm = true) : CaD X (.builtin "min") cMin2 := by
  refine ⟨_, call_min2 hc, fun Z xs H ds w Q' Q k n h kq => ?_⟩
  unfold cMin2 at h
  split at h
  · obtain ⟨v, u, rfl, n1, n2⟩ := dall2 n
    cases n1; cases n2
    exact ⟨_, _, rfl, kq _ _ (post_same k (.int _) h)⟩
  · exact h.elim
def cInt : RcD := fun ds w Q => match ds with
  | [.int i] => Q (.int i) w
  | [.bl b] => Q (.int (if b then 1 else 0)) w
  | _ => False
theorem ca_int : CaD X (.type "int") cInt := by
  refine ⟨_, call_int1, fun Z xs H ds w Q' Q k n h kq => ?_⟩
  unfold cInt at h
  split at h
  · obtain ⟨v, rfl, n1⟩ := dall1 n
    cases n1
    exact .inl ⟨_, rfl, kq _ _ (post_same k (.int _) h)⟩
  · obtain ⟨v, rfl, n1⟩ := dall1 n
    cases n1
    exact .inr ⟨_, rfl, kq _ _ (post_same k (.int _) h)⟩
  · exact h.elim
def cOrd : RcD := fun ds w Q => match ds with
  | [.str z] => z.length = 1 ∧ Q (.int (z.cps.getD 0 0 : Nat)) w
  | _ => False
theorem ca_ord : CaD X (.builtin "ord") cOrd := by
  refine ⟨_, call_ord, fun Z xs H ds w Q' Q k n h kq => ?_⟩
  unfold cOrd at h
  split at h
  · obtain ⟨v, rfl, n1⟩ := dall1 n
    cases n1
    exact ⟨_, rfl, h.1, kq _ _ (post_same k (.int _) h.2)⟩
  · exact h.elim
/-- list and tuple of a list or tuple -/
def seqOf (w : Wd) (d : PV) : Option (List PV) := match vw w d with
  | .lst es => some es
  | .tup es => some es
  | .scr es => some es
  | _ => none
def cList : RcD := fun ds w Q => match ds with
  | [x] => match seqOf w x with
    | some es => Q (.lst es) w
    | none => False
  | _ => False
def cTuple : RcD := fun ds w Q => match ds with
  | [x] => match seqOf w x with
    | some es => Q (.tup es) w
    | none => False
  | _ => False
theorem seqOf_sq {K : Kz} {w : Wd} {H : Hp} {v : V} {d : PV} {es : List PV} (k : Wk K w H) (n : Dn K w H v d) (h : seqOf w d = some es) : ∃ a xs, v = .ref a ∧ (SqL K.K H a xs ∨ (Tp K w H a xs ∧ d = .tup es)) ∧ DnAll K w H xs es := by
  unfold seqOf at h
  split at h
  · rename_i e; cases h
    obtain ⟨p, ys, rfl, hh, hn⟩ := vwL k n e
    exact ⟨p, ys, rfl, .inl (SqL.of hh), hn⟩
  · rename_i e; cases h
    obtain ⟨p, ys, rfl, hh, hn⟩ := vwT n e
    refine ⟨p, ys, rfl, .inr ⟨hh, ?_⟩, hn⟩
    cases d <;> simp [vw] at e
    · rw [e]
    · split at e <;> cases e
  · rename_i e; cases h
    obtain ⟨p, ys, rfl, hh, hn⟩ := vwZ n e
    exact ⟨p, ys, rfl, .inl hh.sq, hn⟩
  · cases h
theorem ca_list : CaD X (.type "list") cList := by
  refine ⟨_, call_list_of, fun Z xs H ds w Q' Q k n h kq => ?_⟩
  unfold cList at h
  split at h
  · obtain ⟨v, rfl, n1⟩ := dall1 n
    split at h
    · rename_i e
      obtain ⟨p, ys, rfl, hh, hn⟩ := seqOf_sq k n1 e
      exact ⟨p, ys, rfl, hh.imp id fun z => z.1.sq, fun l hl => kq _ _ (post_lst k hl hn h)⟩
    · exact h.elim
  · exact h.elim
theorem ca_tuple : CaD X (.type "tuple") cTuple := by
  refine ⟨_, call_tuple_of, fun Z xs H ds w Q' Q k n h kq => ?_⟩
  unfold cTuple at h
  split at h
  · obtain ⟨v, rfl, n1⟩ := dall1 n
    split at h
    · rename_i e
      obtain ⟨p, ys, rfl, hh, hn⟩ := seqOf_sq k n1 e
      refine ⟨p, ys, rfl, ?_⟩
      rcases hh with hh | ⟨hh, _⟩
      · exact .inl ⟨hh, fun l hl => kq _ _ (post_tup k hl hn h)⟩
      · exact .inr ⟨hh.sq, kq _ _ (post_same k (.tup hh hn) h)⟩
    · exact h.elim
  · exact h.elim
/-- all, any of a list of truths -/
def blsOf : List PV → Option (List Bool)
  | [] => some []
  | .bl b :: r => (blsOf r).map (b :: ·)
  | _ => none
theorem blsOf_dn {K : Kz} {w : Wd} {H : Hp} : ∀ {es : List PV} {bs : List Bool} {xs : List V}, blsOf es = some bs → DnAll K w H xs es → xs = bs.map V.bl
  | [], _, _, h, n => by cases h; cases n; rfl
  | .bl b :: r, bs, _, h, n => by
    cases n with
    | cons h1 h2 =>
      cases h1
      cases e : blsOf r with
      | none => simp [blsOf, e] at h
      | some cs =>
        have h' : b :: cs = bs := by simpa [blsOf, e] using h
        subst h'
        rw [blsOf_dn e h2]; rfl
  | .non :: _, _, _, h, _ => by simp [blsOf] at h
  | .int _ :: _, _, _, h, _ => by simp [blsOf] at h
  | .str _ :: _, _, _, h, _ => by simp [blsOf] at h
  | .tup _ :: _, _, _, h, _ => by simp [blsOf] at h
  | .lst _ :: _, _, _, h, _ => by simp [blsOf] at h
  | .scr _ :: _, _, _, h, _ => by simp [blsOf] at h
  | .ref _ :: _, _, _, h, _ => by simp [blsOf] at h
  | .ty _ :: _, _, _, h, _ => by simp [blsOf] at h
def cBls (f : List Bool → Bool) : RcD := fun ds w Q => match ds with
  | [.lst es] => ∃ bs, blsOf es = some bs ∧ Q (.bl (f bs)) w
  | _ => False
def cAll : RcD := cBls (·.all id)
def cAny : RcD := cBls (·.any id)
theorem ca_all (hc : X.calm = true) : CaD X (.builtin "all") cAll := by
  refine ⟨_, cr_all hc, fun Z xs H ds w Q' Q k n h kq => ?_⟩
  unfold cAll cBls at h
  split at h
  · obtain ⟨v, rfl, n1⟩ := dall1 n
    cases n1 with
    | lst hl hn =>
      obtain ⟨bs, hb, q⟩ := h
      have e := blsOf_dn hb hn
      subst e
      exact ⟨_, bs, rfl, hl.sq, kq _ _ (post_same k (.bl _) q)⟩
  · exact h.elim
theorem ca_any (hc : X.calm = true) : CaD X (.builtin "any") cAny := by
  refine ⟨_, cr_any hc, fun Z xs H ds w Q' Q k n h kq => ?_⟩
  unfold cAny cBls at h
  split at h
  · obtain ⟨v, rfl, n1⟩ := dall1 n
    cases n1 with
    | lst hl hn =>
      obtain ⟨bs, hb, q⟩ := h
      have e := blsOf_dn hb hn
      subst e
      exact ⟨_, bs, rfl, hl.sq, kq _ _ (post_same k (.bl _) q)⟩
  · exact h.elim
/-- isinstance -/
def tyName (w : Wd) : PV → Option String
  | .non => some "NoneType"
  | .bl _ => some "bool"
  | .int _ => some "int"
  | .str _ => some "str"
  | .tup _ => some "tuple"
  | .lst _ => some "list"
  | .scr _ => some "list"
  | .ref a => match w a with
    | some (.lst _) => some "list"
    | some (.dct _) => some "dict"
    | _ => none
  | .ty _ => none
def subTy (t c : String) : Bool := t == c || (t == "bool" && c == "int")
def knownC (c : String) : Bool := ["int", "bool", "str", "tuple", "list", "dict"].contains c
theorem tyName_x {K : Kz} {w : Wd} {H : Hp} {v : V} {d : PV} {t : String} (k : Wk K w H) (n : Dn K w H v d) (h : tyName w d = some t) : TyX K.K H v (.type t) ∧ ["NoneType", "bool", "int", "str", "tuple", "list", "dict"].contains t = true := by
  cases n with
  | non => cases h; exact ⟨.base .non, by decide⟩
  | bl b => cases h; exact ⟨.base (.bl b), by decide⟩
  | int i => cases h; exact ⟨.base (.int i), by decide⟩
  | str x => cases h; exact ⟨.base (.str x), by decide⟩
  | ty n => cases h
  | tup h1 _ =>
    cases h
    refine ⟨?_, by decide⟩
    rcases h1 with ⟨_, _, h1⟩ | ⟨o, its, n, hk, hc, _⟩
    · exact .base (.tup h1)
    · exact .kTuple hk hc
  | lst h1 _ => cases h; exact ⟨.base (.lst h1.2.2), by decide⟩
  | scr h1 _ =>
    cases h
    refine ⟨?_, by decide⟩
    rcases h1 with ⟨_, _, h2 | ⟨o, h2⟩⟩ | ⟨o, its, n, hk, hc, _⟩
    · exact .base (.lst h2)
    · exact .base (.frz h2)
    · exact .kList hk hc
  | ref a =>
    simp only [tyName] at h
    split at h
    · rename_i e; cases h
      cases k.at_ a _ e with
      | lst h1 _ => exact ⟨.base (.lst h1), by decide⟩
    · rename_i e; cases h
      cases k.at_ a _ e with
      | dct h1 _ => exact ⟨.base (.dK h1), by decide⟩
    · cases h
theorem kit_known {K : Frag} {t c : String} (ht : ["NoneType", "bool", "int", "str", "tuple", "list", "dict"].contains t = true) (hc : knownC c = true) : PySem.W.kitOne K (.type t) (.type c) = some (subTy t c) := by
  refine kit_ty ?_
  have h1 : ∀ t ∈ ["NoneType", "bool", "int", "str", "tuple", "list", "dict"], ∀ c ∈ ["int", "bool", "str", "tuple", "list", "dict"], kitB t c = some (subTy t c) := by decide +kernel
  exact h1 t (by simpa using ht) c (by simpa [knownC] using hc)
def tysOf : List PV → Option (List String)
  | [] => some []
  | .ty c :: r => (tysOf r).map (c :: ·)
  | _ => none
def cIsi : RcD := fun ds w Q => match ds with
  | [x, .ty c] => ∃ t, tyName w x = some t ∧ knownC c = true ∧ Q (.bl (subTy t c)) w
  | [x, .tup cs] => ∃ t us, tyName w x = some t ∧ tysOf cs = some us ∧ us.all knownC = true ∧ Q (.bl (us.any (subTy t))) w
  | _ => False
theorem tysOf_dn {K : Kz} {w : Wd} {H : Hp} : ∀ {es : List PV} {bs : List String} {xs : List V}, tysOf es = some bs → DnAll K w H xs es → Paired ClsV xs (bs.map Value.type)
  | [], _, _, h, n => by cases h; cases n; exact .nil
  | .ty b :: r, bs, _, h, n => by
    cases n with
    | cons h1 h2 =>
      cases h1
      cases e : tysOf r with
      | none => simp [tysOf, e] at h
      | some cs =>
        have h' : b :: cs = bs := by simpa [tysOf, e] using h
        subst h'
        exact .cons (.ty b) (tysOf_dn e h2)
  | .non :: _, _, _, h, _ => by simp [tysOf] at h
  | .int _ :: _, _, _, h, _ => by simp [tysOf] at h
  | .str _ :: _, _, _, h, _ => by simp [tysOf] at h
  | .tup _ :: _, _, _, h, _ => by simp [tysOf] at h
  | .lst _ :: _, _, _, h, _ => by simp [tysOf] at h
  | .scr _ :: _, _, _, h, _ => by simp [tysOf] at h
  | .ref _ :: _, _, _, h, _ => by simp [tysOf] at h
  | .bl _ :: _, _, _, h, _ => by simp [tysOf] at h
theorem kitAny_known {K : Frag} {t : String} (ht : ["NoneType", "bool", "int", "str", "tuple", "list", "dict"].contains t = true) : ∀ {us : List String}, us.all knownC = true → PySem.W.kitAny K (.type t) (us.map Value.type) = some (us.any (subTy t))
  | [], _ => rfl
  | c :: r, h => by
    simp only [List.all_cons, Bool.and_eq_true] at h
    refine kitAny_cons (b := subTy t c) (kit_known ht h.1) (fun z => ?_) fun z => ?_
    · rw [List.any_cons, z, Bool.false_or]; exact kitAny_known ht h.2
    · rw [List.any_cons, z, Bool.true_or]
theorem ca_isi : CaD X (.builtin "isinstance") cIsi := by
  refine ⟨_, call_isi.or (call_isiT.or call_isiK), fun Z xs H ds w Q' Q k n h kq => ?_⟩
  unfold cIsi at h
  split at h
  · obtain ⟨v, u, rfl, n1, n2⟩ := dall2 n
    cases n2
    obtain ⟨t, ht, hc, q⟩ := h
    obtain ⟨h1, h2⟩ := tyName_x k n1 ht
    exact .inl ⟨v, _, _, _, _, rfl, .ty _, h1, kit_known h2 hc, kq _ _ (post_same k (.bl _) q)⟩
  · obtain ⟨v, u, rfl, n1, n2⟩ := dall2 n
    obtain ⟨t, us, ht, hu, hc, q⟩ := h
    obtain ⟨h1, h2⟩ := tyName_x k n1 ht
    cases n2 with
    | tup hp hn =>
      rcases hp with ⟨_, _, hp⟩ | hp
      · exact .inr (.inl ⟨v, _, _, _, _, _, rfl, hp, tysOf_dn hu hn, h1, kitAny_known h2 hc, kq _ _ (post_same k (.bl _) q)⟩)
      · obtain ⟨⟨oc, od, dt, sl⟩, its, m, hk, hcl, hd, _, hv⟩ := hp
        simp only at hcl hd
        subst hcl hd
        have z := ClsV.all (tysOf_dn hu hn) hv
        refine .inr (.inr ⟨v, _, od, us.map Value.type, m, sl, _, _, rfl, ?_, h1, kitAny_known h2 hc, kq _ _ (post_same k (.bl _) q)⟩)
        rw [← z]; simpa using hk
  · exact h.elim
end
end Pd

/-! calls of defs, statements, loops, comprehensions -/
namespace Pd
open PySem L2

/-! ### defs -/
abbrev PSp := List PV → Wd → WQ → Prop
def upSp (K : Frag) (p : PSp) : Sp := fun vs H Q _ => ∃ Z ds w Q', Wk ⟨K, Z⟩ w H ∧ DnAll ⟨K, Z⟩ w H vs ds ∧ p ds w Q' ∧ ∀ v H', Post ⟨K, Z⟩ w H Q' v H' → Q v H'
/-- the def of that name keeps a promise of data -/
structure FD (P : Program) (w : World) (K : Frag) (mg : Str → Option Value) (base : Heap) (x : Str) (k : Nat) (p : PSp) : Prop where
  ex : ∃ f fd ps, mg x = some (.ref f) ∧ PySem.W.keepIn K (.ref f) = true ∧ Binds K fd ps [] ∧ FnOk P w K mg base CX0 k f fd ps (upSp K p)
theorem FD.mono {P : Program} {w : World} {K : Frag} {mg : Str → Option Value} {base : Heap} {x : Str} {j k : Nat} {p : PSp} (F : FD P w K mg base x j p) (h : j ≤ k) : FD P w K mg base x k p := by
  obtain ⟨f, fd, ps, a, b, c, d⟩ := F.ex
  exact ⟨f, fd, ps, a, b, c, d.mono h⟩
theorem FD.imp {P : Program} {w : World} {K : Frag} {mg : Str → Option Value} {base : Heap} {x : Str} {k : Nat} {p p' : PSp} (F : FD P w K mg base x k p) (h : ∀ ds w Q, p' ds w Q → p ds w Q) : FD P w K mg base x k p' := by
  obtain ⟨f, fd, ps, a, b, c, d⟩ := F.ex
  exact ⟨f, fd, ps, a, b, c, d.imp fun vs H Q E ⟨Z, ds, w, Q', h2, h3, h4, h5⟩ => ⟨Z, ds, w, Q', h2, h3, h _ _ _ h4, h5⟩⟩
def wCall (p : PSp) (t : WA) : WE := fun ρ w Q => t ρ w fun ds w1 => p ds w1 Q
section
variable {X : Cx} {x : Str} {k : Nat} {pr : PSp} {p pos : Pos} {e : Expr} {es : List Expr} {t : WA}
theorem call_up {K : Frag} {pr : PSp} {t : WA} {σ : St} {H : Hp} {Q : VK} {E : XK} (h : upE K (wCall pr t) σ H Q) : tCall (upSp K pr) [] E (upA K t) σ H Q := by
  obtain ⟨Z, ρ, w, Q', r, h, kk⟩ := h
  refine upA1 r h fun vs H1 ds w1 e1 r1 n1 h1 => ?_
  exact ⟨Z, ds, w1, Q', r1.wk, by rw [List.append_nil]; exact n1, h1, fun v H' p => kk v H' (post_trans e1 p)⟩
theorem de_call (F : FD X.prog X.w X.K X.mg X.base x k pr) (hr : Room k X.A) (hg : Gl X x) (ha : DA X (e :: es) t) (hdb : (x == ("__debug__" : Str)) = false := by decide)
    (he : starEach (e :: es) X.env = (false, eval e X.env) :: starEach es X.env := by rfl) (hpl : (backTo pos (starEach es X.env)).any (·.1) = false := by rfl) : DE X (.Call (.Name x p) (e :: es) [] pos) (wCall pr t) := by
  obtain ⟨f, fd, ps, a, b, c, d⟩ := F.ex
  exact pe_le (pe_call d hr hg a b c .nil pass0 ha hdb he hpl) fun _ _ _ h => call_up h
theorem de_call0 (F : FD X.prog X.w X.K X.mg X.base x k pr) (hr : Room k X.A) (hg : Gl X x) (hdb : (x == ("__debug__" : Str)) = false := by decide) : DE X (.Call (.Name x p) [] [] pos) (wCall pr wNil) := by
  obtain ⟨f, fd, ps, a, b, c, d⟩ := F.ex
  refine pe_le (pe_call0 d hr hg a b c .nil pass0 hdb) fun σ H Q ⟨Z, ρ, w, Q', r, h, kk⟩ => ?_
  exact ⟨Z, [], w, Q', r.wk, .nil, h, kk⟩
end
/-- slots at the start -/
def begin0 (N : List Str) (ds : List PV) : Sl := ds.map some ++ List.replicate (N.length - ds.length) none
theorem begin_rep {K : Kz} {w : Wd} {H : Hp} {N : List Str} {vs : List V} {ds : List PV} (k : Wk K w H) (n : DnAll K w H vs ds) : Rep K (begin0 N ds) w (L2.start N vs) H := by
  unfold begin0 L2.start
  refine ⟨by simp [n.length], fun i d h => ?_, k⟩
  by_cases hi : i < ds.length
  · rw [List.getElem?_append_left (by simpa using hi), List.getElem?_map] at h
    rw [List.getElem?_append_left (by rw [List.length_map, n.length]; exact hi), List.getElem?_map]
    cases e : ds[i]? with
    | none => rw [e] at h; cases h
    | some d' =>
      rw [e] at h
      cases h
      obtain ⟨v, h1, h2⟩ := n.get e
      exact ⟨v, by rw [h1]; rfl, h2⟩
  · rw [List.getElem?_append_right (by simpa using hi), List.getElem?_replicate] at h
    split at h <;> cases h
section
variable {P : Program} {w : World} {K : Frag} {mg : Str → Option Value} {base : Heap}
/-- THE RULE for a def -/
theorem fd_mk {x qual : Str} {st : Stmt} {f : Addr} {fd : FuncData} {N ps : List Str} {k : Nat} {p : PSp} (F : Fun K x qual st f fd) (hm : mg x = some (.ref f)) (hb : Binds K fd ps []) (S : FnScope N ps (defScope st)) (len : ∀ ds w Q, p ds w Q → ds.length = ps.length)
    (body : ∀ (cdv : Value) (A : Around) (outer : List Env) (s : Shared) (H : Hp) (E : XK), Room k (A.deeper (PyProof.Rows.envOfC qual (defScope st) s.heap.objs.size f cdv)) →
      ∃ t, DSs (cxOf CX0 P w K mg base N qual (defScope st) f cdv A outer s H E).nox (defBody st) t ∧ ∀ ds w' Q, p ds w' Q → t { nx := fun _ w2 => Q .non w2, rt := Q } (begin0 N ds) w') : FD P w K mg base x (k + 1) p := by
  refine ⟨f, fd, ps, hm, F.kp, hb, F.ok S (fun vs H Q E h => ?_) fun cdv A outer s H vs Q E hr h => ?_⟩
  · obtain ⟨Z, ds, w, Q', h1, h2, h3, _⟩ := h
    rw [h2.length]
    exact len _ _ _ h3
  · obtain ⟨Z, ds, w, Q', h1, h2, h3, h4⟩ := h
    obtain ⟨t, ht, hp⟩ := body cdv A outer s H E hr
    refine ⟨_, ht, Z, begin0 N ds, w, _, begin_rep h1 h2, hp ds w Q' h3, ⟨fun σ' H' ρ' w' e r q => ?_, fun v H' q => h4 v H' q, fun _ _ _ _ _ _ q => q.elim, fun _ _ _ _ _ _ q => q.elim⟩⟩
    exact h4 _ _ ⟨.non, w', e, r.wk, .non, q⟩
end

/-! ### statements -/
section
variable {X : Cx} {st : Stmt} {rest sa sb : List Stmt} {t u : WS} {c e : Expr} {te : WE} {tc : WT} {pos : Pos}
def wNext : WS := fun D ρ w => D.nx ρ w
def wSeq2 (t u : WS) : WS := fun D ρ w => t { D with nx := u D } ρ w
theorem ds_nil : DSs X [] wNext := pss_le pss_nil fun D σ H ⟨Z, ρ, w, E, r, h, k⟩ => k.nx σ H ρ w (Ext.refl _ _) r h
theorem ds_cons (h1 : DS X st t) (h2 : DSs X rest u) : DSs X (st :: rest) (wSeq2 t u) :=
  pss_le (pss_cons h1 h2) fun D σ H ⟨Z, ρ, w, E, r, h, k⟩ => ⟨Z, ρ, w, { E with nx := u E }, r, h, ⟨fun σ' H' ρ' w' x r' q => ⟨Z, ρ', w', E, r', q, k.ext x⟩, k.rt, k.bk, k.ct⟩⟩
theorem ds_one (h1 : DS X st t) : DSs X [st] t := pss_one h1
theorem ds_pass : DS X (.Pass pos) wNext := ps_le ps_pass fun D σ H ⟨Z, ρ, w, E, r, h, k⟩ => k.nx σ H ρ w (Ext.refl _ _) r h
def wBreak : WS := fun D ρ w => D.bk ρ w
def wCont : WS := fun D ρ w => D.ct ρ w
theorem ds_break : DS X (.Break pos) wBreak := ps_le ps_break fun D σ H ⟨Z, ρ, w, E, r, h, k⟩ => k.bk σ H ρ w (Ext.refl _ _) r h
theorem ds_continue : DS X (.Continue pos) wCont := ps_le ps_continue fun D σ H ⟨Z, ρ, w, E, r, h, k⟩ => k.ct σ H ρ w (Ext.refl _ _) r h
def wDrop (te : WE) : WS := fun D ρ w => te ρ w fun _ w1 => D.nx ρ w1
theorem ds_expr (he : DE X e te) (hs : swapsWith e none pos.line X.env = pure false := by rfl) : DS X (.Expr e pos) (wDrop te) :=
  ps_le (ps_expr he hs) fun D σ H ⟨Z, ρ, w, E, r, h, k⟩ => up1 r h fun x H1 d w1 e1 r1 n h1 => k.nx σ H1 ρ w1 e1 r1 h1
def wRet (te : WE) : WS := fun D ρ w => te ρ w D.rt
theorem ds_ret (he : DE X e te) : DS X (.Return (some e) pos) (wRet te) :=
  ps_le (ps_ret he) fun D σ H ⟨Z, ρ, w, E, r, h, k⟩ => up1 r h fun x H1 d w1 e1 r1 n h1 => k.rt _ _ ⟨d, w1, e1, r1.wk, n, h1⟩
def wRetN : WS := fun D _ w => D.rt .non w
theorem ds_retN : DS X (.Return none pos) wRetN := ps_le ps_retN fun D σ H ⟨Z, ρ, w, E, r, h, k⟩ => k.rt _ _ ⟨.non, w, Ext.refl _ _, r.wk, .non, h⟩
def wIf (c : WT) (t u : WS) : WS := fun D ρ w => c ρ w fun b w1 => if b = true then t D ρ w1 else u D ρ w1
theorem ds_if (hc : DT X c tc) (ha : DSs X sa t) (hb : DSs X sb u) : DS X (.If c sa sb pos) (wIf tc t u) :=
  ps_le (ps_if hc ha hb) fun D σ H ⟨Z, ρ, w, E, r, h, k⟩ => upT1 r h fun b H1 w1 e1 r1 h1 => by
    cases b with
    | true => exact iteT ⟨Z, ρ, w1, E, r1, by simpa using h1, k.ext e1⟩
    | false => exact iteF ⟨Z, ρ, w1, E, r1, by simpa using h1, k.ext e1⟩

/-! targets -/
abbrev WG := PV → Sl → Wd → (Sl → Wd → Prop) → Prop
def upG (K : Frag) (g : WG) : TG := fun v σ H Q => ∃ Z ρ w d Q', Rep ⟨K, Z⟩ ρ w σ H ∧ Dn ⟨K, Z⟩ w H v d ∧ g d ρ w Q' ∧ ∀ σ' H' ρ' w', Ext w H w' H' → Rep ⟨K, Z⟩ ρ' w' σ' H' → Q' ρ' w' → Q σ' H'
abbrev DG (X : Cx) (tg : Expr) (g : WG) : Prop := PG X tg (upG X.K g)
theorem pg_le {tg : Expr} {g g' : TG} (h : PG X tg g) (hl : ∀ v σ H Q, g' v σ H Q → g v σ H Q) : PG X tg g' := ⟨fun pins s σ H v u Q I r q => h.run pins s σ H v u Q I r (hl v σ H Q q)⟩
theorem pgs_le {ts : List Expr} {g g' : TGs} (h : PGs X ts g) (hl : ∀ v σ H Q, g' v σ H Q → g v σ H Q) : PGs X ts g' := ⟨fun pins s σ H v u Q I r q => h.run pins s σ H v u Q I r (hl v σ H Q q)⟩
def wName (i : Nat) : WG := fun d ρ w Q => Q (ρ.set i (some d)) w
theorem dg_name {i : Nat} {x : Str} (hN : X.N.Nodup) (hi : X.N[i]? = some x) (hx : Loc X.env.scope x) (hf : X.fn x = true ∨ X.env.scope.names.lookup x = some .local := by first | exact .inl rfl | exact .inr rfl | assumption) : DG X (.Name x pos) (wName i) :=
  pg_le (pg_name hN hi hx hf) fun v σ H Q ⟨Z, ρ, w, d, Q', r, n, h, k⟩ => k _ _ _ _ (Ext.refl _ _) (r.set n i) h
abbrev WGs := List PV → Sl → Wd → (Sl → Wd → Prop) → Prop
def upGs (K : Frag) (g : WGs) : TGs := fun vs σ H Q => ∃ Z ρ w ds Q', Rep ⟨K, Z⟩ ρ w σ H ∧ DnAll ⟨K, Z⟩ w H vs ds ∧ g ds ρ w Q' ∧ ∀ σ' H' ρ' w', Ext w H w' H' → Rep ⟨K, Z⟩ ρ' w' σ' H' → Q' ρ' w' → Q σ' H'
def wgNil : WGs := fun ds ρ w Q => match ds with
  | [] => Q ρ w
  | _ => False
def wgCons (g : WG) (gs : WGs) : WGs := fun ds ρ w Q => match ds with
  | d :: r => g d ρ w fun ρ' w' => gs r ρ' w' Q
  | _ => False
theorem dgs_nil : PGs X [] (upGs X.K wgNil) := pgs_le pgs_nil fun vs σ H Q ⟨Z, ρ, w, ds, Q', r, n, h, k⟩ => by
  cases n with
  | nil => exact ⟨rfl, k _ _ _ _ (Ext.refl _ _) r h⟩
  | cons _ _ => exact h.elim
theorem dgs_cons {tg : Expr} {es : List Expr} {g : WG} {gs : WGs} (h1 : DG X tg g) (h2 : PGs X es (upGs X.K gs)) (hs : (assignEach (tg :: es) X.env).map (·.2) = assign tg X.env :: (assignEach es X.env).map (·.2) := by rfl) : PGs X (tg :: es) (upGs X.K (wgCons g gs)) :=
  pgs_le (pgs_cons h1 h2 hs) fun vs σ H Q ⟨Z, ρ, w, ds, Q', r, n, h, k⟩ => by
    cases n with
    | nil => exact h.elim
    | cons n1 n2 =>
      refine ⟨_, _, rfl, Z, ρ, w, _, _, r, n1, h, fun σ1 H1 ρ1 w1 e1 r1 h1 => ?_⟩
      exact ⟨Z, ρ1, w1, _, _, r1, n2.ext e1, h1, fun σ2 H2 ρ2 w2 e2 r2 h2 => k _ _ _ _ (e1.trans e2) r2 h2⟩
def wgTup (n : Nat) (gs : WGs) : WG := fun d ρ w Q => match d with
  | .tup ds => ds.length = n ∧ gs ds ρ w Q
  | _ => False
theorem dg_tup {es : List Expr} {k : Nat} {gs : WGs} {n : Nat} (hc : X.calm = true) (h : PGs X es (upGs X.K gs))
    (hn : (assignEach es X.env).length = n := by rfl) (hst : (assignEach es X.env).findIdx? (·.1) = none := by rfl) : DG X (.Tuple es k pos) (wgTup n gs) :=
  pg_le (pg_tup hc h hn hst) fun v σ H Q ⟨Z, ρ, w, d, Q', r, n1, h, k⟩ => by
    cases n1 with
    | tup hp hn => exact ⟨_, _, rfl, hp.sq, by rw [hn.length]; exact h.1, Z, ρ, w, _, _, r, hn, h.2, k⟩
    | _ => exact h.elim
/-- target = value -/
def wAsg (te : WE) (g : WG) : WS := fun D ρ w => te ρ w fun x w1 => g x ρ w1 D.nx
theorem ds_asg {tg : Expr} {g : WG} (he : DE X e te) (hg : DG X tg g) (hs : swapsWithSole [tg] e pos.line X.env = pure false := by rfl) (hw : swappedStores [tg] e X.env = pure none := by rfl)
    (h1 : (assignEach [tg] X.env).map (·.2) = [assign tg X.env] := by rfl) : DS X (.Assign [tg] e pos) (wAsg te g) :=
  ps_le (ps_asg he hg hs hw h1) fun D σ H ⟨Z, ρ, w, E, r, h, k⟩ => up1 r h fun x H1 d w1 e1 r1 n h1 => ⟨Z, ρ, w1, d, _, r1, n, h1, fun σ' H' ρ' w' e2 r2 h2 => k.nx _ _ _ _ (e1.trans e2) r2 h2⟩
/-- xs[i] = v, xs a list that may change -/
def rSub (d o i : PV) (w2 : Wd) (Q : Wd → Prop) : Prop := match o, i with
  | .ref a, .int k => match w2 a with
    | some (.lst ds) => ∃ j, ixN ds.length k = some j ∧ Q (wset w2 a (.lst (ds.set j d)))
    | _ => False
  | _, _ => False
def wgSub (to ti : WE) : WG := fun d ρ w Q => to ρ w fun o w1 => ti ρ w1 fun i w2 => rSub d o i w2 fun w3 => Q ρ w3
theorem Ext.put {w : Wd} {H : Hp} {a : Addr} {m m' : MO} {o : HO} (h : w a = some m) : Ext w H (wset w a m') (upd H a o) := fun b u h1 h2 => by
  have q : b ≠ a := fun z => by rw [z, h] at h1; cases h1
  exact ⟨by rw [wset_ne q]; exact h1, by rw [upd_ne q]; exact h2⟩
theorem Wk.put {K : Kz} {w : Wd} {H : Hp} {a : Addr} {m m' : MO} {o : HO} (k : Wk K w H) (h : w a = some m) (new : MOk K (wset w a m') (upd H a o) a m') : Wk K (wset w a m') (upd H a o) := by
 refine ⟨fun b x hb => ?_, fun b z => ?_⟩
 rotate_left
 · obtain ⟨h1, u, h2⟩ := k.zin b z
   have q := (Ext.put (m' := m') (o := o) h) b u h1 h2
   exact ⟨q.1, u, q.2⟩
 · by_cases q : b = a
   · subst q
     rw [wset_same] at hb
     cases hb
     exact new
   · rw [wset_ne q] at hb
     have e : Ext w H (wset w a m') (upd H a o) := Ext.put h
     have hh : upd H a o b = H b := upd_ne q
     cases k.at_ b x hb with
     | lst h1 h2 => exact .lst (hh.trans h1) (h2.ext e)
     | dct h1 h2 => exact .dct (hh.trans h1) (h2.ext e)
     | ins h1 h2 => exact .ins (hh.trans h1) (h2.ext e)
theorem dg_sub {o i : Expr} {to ti : WE} (ho : DE X o to) (hi : DE X i ti)
    (ha : ∀ v, assign (.Subscript o i pos) X.env v = (do
      let ov ← holding [v] (eval o X.env)
      let iv ← holding [v, ov] (eval i X.env)
      standAt pos
      holding [v, ov, iv] (setItem ov iv v)
      release [v, ov, iv] []) := by intro _; rfl) : DG X (.Subscript o i pos) (wgSub to ti) :=
  pg_le (pg_sub ho hi set_list ha) fun v σ H Q ⟨Z, ρ, w, d, Q', r, n, h, k⟩ => up1 r h fun ov H1 od w1 e1 r1 n1 h1 => up1 r1 h1 fun iv H2 id' w2 e2 r2 n2 h2 => by
    unfold rSub at h2
    split at h2
    · split at h2
      · rename_i ds e
        obtain ⟨j, hj, q⟩ := h2
        cases n1
        cases n2
        cases r2.wk.at_ _ _ e with
        | @lst xs _ h3 h4 =>
          have ep : Ext w2 H2 (wset w2 _ (.lst (ds.set j d))) (upd H2 _ (.lst (xs.set j v))) := Ext.put e
          refine ⟨_, _, _, j, rfl, rfl, h3, by rw [h4.length]; exact hj, k _ _ _ _ (e1.trans (e2.trans ep)) (r2.ext ep ?_) q⟩
          exact r2.wk.put e (.lst upd_same ((DnAll.set ((n.ext e1).ext e2) j h4).ext ep))
      · exact h2.elim
    · exact h2.elim
end
end Pd

/-! what is walked, for, while, comprehensions, join -/
namespace Pd
open PySem L2

/-- more is hidden, all of it new -/
def Zx (K : Kz) (H : Hp) (Z' : Addr → Prop) : Prop := ∀ b, Z' b → K.Z b ∨ H b = none
mutual
theorem Dn.hide {K : Kz} {w : Wd} {H : Hp} {Z' : Addr → Prop} (z : Zx K H Z') : ∀ {v : V} {d : PV}, Dn K w H v d → Dn ⟨K.K, Z'⟩ w H v d
  | _, _, .non => .non
  | _, _, .bl b => .bl b
  | _, _, .int i => .int i
  | _, _, .str x => .str x
  | _, _, .ref a => .ref a
  | _, _, .ty n => .ty n
  | _, _, .tup h r => .tup (by
      rcases h with ⟨h1, h2, h3⟩ | h
      · exact .inl ⟨h1, fun q => (z _ q).elim h2 (fun e => by rw [h3] at e; cases e), h3⟩
      · exact .inr h) (DnAll.hide z r)
  | _, _, .lst h r => .lst ⟨h.1, fun q => (z _ q).elim h.2.1 (fun e => by rw [h.2.2] at e; cases e), h.2.2⟩ (DnAll.hide z r)
  | _, _, .scr h r => .scr (by
      rcases h with ⟨h1, h2, h3⟩ | h
      · refine .inl ⟨h1, fun q => (z _ q).elim h2 (fun e => ?_), h3⟩
        rcases h3 with h3 | ⟨o, h3⟩ <;> (rw [h3] at e; cases e)
      · exact .inr h) (DnAll.hide z r)
theorem DnAll.hide {K : Kz} {w : Wd} {H : Hp} {Z' : Addr → Prop} (z : Zx K H Z') : ∀ {vs : List V} {ds : List PV}, DnAll K w H vs ds → DnAll ⟨K.K, Z'⟩ w H vs ds
  | _, _, .nil => .nil
  | _, _, .cons h r => .cons (h.hide z) (DnAll.hide z r)
end
mutual
theorem Dn.less {K : Kz} {w : Wd} {H : Hp} {Z' : Addr → Prop} (z : ∀ b, Z' b → K.Z b) : ∀ {v : V} {d : PV}, Dn K w H v d → Dn ⟨K.K, Z'⟩ w H v d
  | _, _, .non => .non
  | _, _, .bl b => .bl b
  | _, _, .int i => .int i
  | _, _, .str x => .str x
  | _, _, .ref a => .ref a
  | _, _, .ty n => .ty n
  | _, _, .tup h r => .tup (by
      rcases h with ⟨h1, h2, h3⟩ | h
      · exact .inl ⟨h1, fun q => h2 (z _ q), h3⟩
      · exact .inr h) (DnAll.less z r)
  | _, _, .lst h r => .lst ⟨h.1, fun q => h.2.1 (z _ q), h.2.2⟩ (DnAll.less z r)
  | _, _, .scr h r => .scr (by
      rcases h with ⟨h1, h2, h3⟩ | h
      · exact .inl ⟨h1, fun q => h2 (z _ q), h3⟩
      · exact .inr h) (DnAll.less z r)
theorem DnAll.less {K : Kz} {w : Wd} {H : Hp} {Z' : Addr → Prop} (z : ∀ b, Z' b → K.Z b) : ∀ {vs : List V} {ds : List PV}, DnAll K w H vs ds → DnAll ⟨K.K, Z'⟩ w H vs ds
  | _, _, .nil => .nil
  | _, _, .cons h r => .cons (h.less z) (DnAll.less z r)
end
/-- the iterator yields these data, whatever is made meanwhile -/
structure ItD (K : Kz) (J : It) (w : Wd) (H : Hp) (ds : List PV) : Prop where
  go : ∀ (i : Nat) w' H', Ext w H w' H' → i < ds.length → J.go i H'
  yld : ∀ (i : Nat) w' H' x H'' Z', Ext w H w' H' → Zx K H Z' → Wk ⟨K.K, Z'⟩ w' H' → i < ds.length → J.yld i H' x H'' → ∃ d, ds[i]? = some d ∧ Ext w' H' w' H'' ∧ Wk ⟨K.K, Z'⟩ w' H'' ∧ Dn ⟨K.K, Z'⟩ w' H'' x d
  stop : ∀ w' H', Ext w H w' H' → J.stop ds.length H'
theorem itd_list {K : Kz} {w : Wd} {H : Hp} {a : Addr} {xs : List V} {ds : List PV} (h : ∀ w' H', Ext w H w' H' → SqL K.K H' a xs) (n : DnAll K w H xs ds) : ItD K (Itl K.K a) w H ds where
  go := fun i w' H' e hi => by
    obtain ⟨v, h1, _⟩ := n.get (List.getElem?_eq_getElem hi)
    exact ⟨xs, v, h _ _ e, h1⟩
  yld := fun i w' H' x H'' Z' e z k hi ⟨h1, h2⟩ => by
    subst h1
    obtain ⟨d, h3, h4⟩ := n.get' (h2 xs (h _ _ e))
    exact ⟨d, h3, Ext.refl _ _, k, (h4.hide z).ext e⟩
  stop := fun w' H' e => ⟨xs, h _ _ e, by rw [n.length]; exact Nat.le_refl _⟩
theorem itd_tup {K : Kz} {w : Wd} {H : Hp} {a : Addr} {xs : List V} {ds : List PV} (h : Tp K w H a xs) (n : DnAll K w H xs ds) : ItD K (Itt K.K a) w H ds where
  go := fun i w' H' e hi => by
    obtain ⟨v, h1, _⟩ := n.get (List.getElem?_eq_getElem hi)
    exact ⟨xs, v, (h.ext e).sq, h1⟩
  yld := fun i w' H' x H'' Z' e z k hi ⟨h1, h2⟩ => by
    subst h1
    obtain ⟨d, h3, h4⟩ := n.get' (h2 xs (h.ext e).sq)
    exact ⟨d, h3, Ext.refl _ _, k, (h4.hide z).ext e⟩
  stop := fun w' H' e => ⟨xs, (h.ext e).sq, by rw [n.length]; exact Nat.le_refl _⟩
/-- a text's signs -/
def signs (z : Str) : List PV := z.cps.toList.map fun c => .str ⟨#[c]⟩
theorem signs_length (z : Str) : (signs z).length = z.cps.size := by simp [signs]
theorem itd_str {K : Kz} {w : Wd} {H : Hp} (z : Str) : ItD K (Its z) w H (signs z) where
  go := fun i w' H' e hi => by rw [signs_length] at hi; exact hi
  yld := fun i w' H' x H'' Z' e z' k hi ⟨h1, c, h2, h3⟩ => by
    subst h1; subst h3
    refine ⟨.str ⟨#[c]⟩, ?_, Ext.refl _ _, k, .str _⟩
    simp only [signs, List.getElem?_map, Array.getElem?_toList, h2, Option.map_some]
  stop := fun w' H' e => by rw [signs_length]; exact Nat.le_refl _
/-- lo, lo + 1, .. -/
def nums (lo : Int) (n : Nat) : List PV := (List.range n).map fun (i : Nat) => .int (lo + i)
theorem nums_length (lo : Int) (n : Nat) : (nums lo n).length = n := by simp [nums]
theorem itd_range {K : Kz} {w : Wd} {H : Hp} (lo : Int) (n : Nat) : ItD K (Itr lo n) w H (nums lo n) where
  go := fun i w' H' e hi => by rw [nums_length] at hi; exact hi
  yld := fun i w' H' x H'' Z' e z' k hi ⟨h1, h2⟩ => by
    subst h1; subst h2
    rw [nums_length] at hi
    refine ⟨.int (lo + i), ?_, Ext.refl _ _, k, .int _⟩
    simp [nums, List.getElem?_map, List.getElem?_range hi]
  stop := fun w' H' e => by rw [nums_length]; exact Nat.le_refl _
abbrev WI := Sl → Wd → (List PV → Wd → Prop) → Prop
def upI (K : Frag) (t : WI) : TI := fun σ H R => ∃ Z ρ w Q', Rep ⟨K, Z⟩ ρ w σ H ∧ t ρ w Q' ∧ ∀ J H' ds w', Ext w H w' H' → Wk ⟨K, Z⟩ w' H' → ItD ⟨K, Z⟩ J w' H' ds → Q' ds w' → R J H'
abbrev DI (X : Cx) (tg it : Expr) (t : WI) : Prop := PI X tg it (upI X.K t)
theorem pi_le {X : Cx} {tg it : Expr} {t t' : TI} (h : PI X tg it t) (hl : ∀ σ H R, t' σ H R → t σ H R) : PI X tg it t' := ⟨fun pins s σ H R I q => h.run pins s σ H R I (hl σ H R q)⟩
def onSeq (x : PV) (k : List PV → Prop) : Prop := match x with
  | .lst ds => k ds
  | .tup ds => k ds
  | .scr ds => k ds
  | .str z => k (signs z)
  | _ => False
def wSeq (te : WE) : WI := fun ρ w Q => te ρ w fun x w1 => onSeq x fun ds => Q ds w1
section
variable {X : Cx} {tg e it c : Expr} {te : WE} {pos p : Pos} {ta : WA}
/-- a value that is walked -/
theorem pi_val {t : TE} (he : PE X e t) : PI X tg e (fun σ H R => t σ H fun x H1 => (∃ a xs, x = .ref a ∧ SqL X.K H1 a xs ∧ R (Itl X.K a) H1) ∨ (∃ a xs, x = .ref a ∧ SqT X.K H1 a xs ∧ R (Itt X.K a) H1) ∨ (∃ z, x = .str z ∧ R (Its z) H1)) := by
  refine ⟨fun pins s σ H R I h => ?_⟩
  refine thn (he.run pins s σ H _ I h) fun v s1 ⟨x, H1, I1, r1, q1⟩ => ?_
  rcases q1 with ⟨a, xs, rfl, hq, q⟩ | ⟨a, xs, rfl, hq, q⟩ | ⟨z, rfl, q⟩
  · cases r1
    obtain ⟨its, rv, pl, _⟩ := I1.list hq
    refine wpAny_pyIter_list pl.isList ?_
    exact pi_one (tk := s1.toks) I1 _ (turn_list a _) ⟨_, Heap.get?_push_size _ rfl, rfl, rfl⟩ q
  · cases r1
    obtain ⟨its, rv, pl, _⟩ := I1.tuple hq
    refine wpAny_pyIter_tuple (show s1.heap.IsTuple a its.toArray from pl) ?_
    exact pi_one (tk := s1.toks) I1 _ (turn_tuple a _) ⟨_, Heap.get?_push_size _ rfl, rfl, rfl⟩ q
  · obtain ⟨t, rfl⟩ := r1
    cases ha : z.cps.all (· < 128)
    · exact wpAny_pyIter_wide ha (pi_one (tk := s1.toks) I1 _ (turn_str _ z t "str_iterator" (.inr rfl)) ⟨_, Heap.get?_push_size _ rfl, rfl, rfl⟩ q)
    · exact wpAny_pyIter_ascii ha (pi_one (tk := s1.toks) I1 _ (turn_str _ z t "str_ascii_iterator" (.inl rfl)) ⟨_, Heap.get?_push_size _ rfl, rfl, rfl⟩ q)
theorem di_val (he : DE X e te) : DI X tg e (wSeq te) :=
  pi_le (pi_val he) fun σ H R ⟨Z, ρ, w, Q', r, h, k⟩ => up1 r h fun x H1 d w1 e1 r1 n h1 => by
    cases n with
    | tup hp hn => exact .inr (.inl ⟨_, _, rfl, hp.sq, k _ _ _ _ e1 r1.wk (itd_tup hp hn) h1⟩)
    | lst hp hn => exact .inl ⟨_, _, rfl, hp.sq, k _ _ _ _ e1 r1.wk (itd_list (fun _ _ e => (hp.ext e).sq) hn) h1⟩
    | scr hp hn => exact .inl ⟨_, _, rfl, hp.sq, k _ _ _ _ e1 r1.wk (itd_list (fun _ _ e => (hp.ext e).sq) hn) h1⟩
    | str z => exact .inr (.inr ⟨z, rfl, k _ _ _ _ e1 r1.wk (itd_str z) h1⟩)
    | _ => exact h1.elim
def rRng1 (ds : List PV) (k : List PV → Prop) : Prop := match ds with
  | [.int j] => (-(2 ^ 62) ≤ j ∧ j < 2 ^ 62) ∧ k (nums 0 j.toNat)
  | _ => False
def wRng1 (ta : WA) : WI := fun ρ w Q => ta ρ w fun ds w1 => rRng1 ds fun xs => Q xs w1
def rRng2 (ds : List PV) (k : List PV → Prop) : Prop := match ds with
  | [.int i, .int j] => (-(2 ^ 62) ≤ i ∧ i < 2 ^ 62 ∧ -(2 ^ 62) ≤ j ∧ j < 2 ^ 62) ∧ k (nums i (j - i).toNat)
  | _ => False
def wRng2 (ta : WA) : WI := fun ρ w Q => ta ρ w fun ds w1 => rRng2 ds fun xs => Q xs w1
theorem di_range1 {a : Expr} (hg : Gl X "range") (hm : X.mg "range" = none) (ha : DA X [a] ta) (hs : starEach [a] X.env = [(false, eval a X.env)] := by rfl) : DI X tg (.Call (.Name "range" p) [a] [] pos) (wRng1 ta) :=
  pi_le (pi_range1 hg hm ha hs) fun σ H R ⟨Z, ρ, w, Q', r, h, k⟩ => upA1 r h fun vs H1 ds w1 e1 r1 n h1 => by
    unfold rRng1 at h1
    split at h1
    · obtain ⟨v, rfl, n1⟩ := dall1 n
      cases n1
      exact ⟨_, rfl, h1.1.1, h1.1.2, k _ _ _ _ e1 r1.wk (itd_range 0 _) h1.2⟩
    · exact h1.elim
theorem di_range2 {a b : Expr} (hg : Gl X "range") (hm : X.mg "range" = none) (ha : DA X [a, b] ta) (hs : starEach [a, b] X.env = [(false, eval a X.env), (false, eval b X.env)] := by rfl) (hs2 : starEach [b] X.env = [(false, eval b X.env)] := by rfl) :
    DI X tg (.Call (.Name "range" p) [a, b] [] pos) (wRng2 ta) :=
  pi_le (pi_range2 hg hm ha hs hs2) fun σ H R ⟨Z, ρ, w, Q', r, h, k⟩ => upA1 r h fun vs H1 ds w1 e1 r1 n h1 => by
    unfold rRng2 at h1
    split at h1
    · obtain ⟨v, u, rfl, n1, n2⟩ := dall2 n
      cases n1; cases n2
      exact ⟨_, _, rfl, h1.1, k _ _ _ _ e1 r1.wk (itd_range _ _) h1.2⟩
    · exact h1.elim

/-! ### for -/
def forD (g : WG) (tb : WS) (E : WEnds) : List PV → Sl → Wd → Prop
  | [], ρ, w => E.nx ρ w
  | d :: r, ρ, w => g d ρ w fun ρ1 w1 => tb { nx := forD g tb E r, rt := E.rt, bk := E.nx, ct := forD g tb E r } ρ1 w1
def wFor (wi : WI) (g : WG) (tb : WS) : WS := fun E ρ w => wi ρ w fun ds w1 => forD g tb E ds ρ w1
theorem ds_for {body : List Stmt} {wi : WI} {g : WG} {tb : WS} (hp : PassesOwn (model X.prog X.w) X.A X.env X.xe) (hc : X.calm = true) (hi : DI X tg it wi) (hg : DG X tg g) (hb : DSs X body tb)
    (hs : ∀ x, foldedSetIterable it X.env x = pure x := by intro _; rfl) : DS X (.For tg it body [] pos) (wFor wi g tb) := by
  refine ps_le (ps_for hp hc hi hg hb hs) fun D σ H ⟨Z, ρ, w, E, r, h, k⟩ => ?_
  refine ⟨Z, ρ, w, _, r, h, fun J H1 ds w1 e1 k1 itd h1 => ?_⟩
  have hk1 := k.ext e1
  refine ⟨fun i m σ' H' => m = ds.length - i ∧ i ≤ ds.length ∧ ∃ ρ' w', Ext w1 H1 w' H' ∧ Rep ⟨X.K, Z⟩ ρ' w' σ' H' ∧ forD g tb E (ds.drop i) ρ' w', ⟨_, rfl, Nat.zero_le _, ρ, w1, Ext.refl _ _, r.ext e1 k1, h1⟩, ?_⟩
  rintro i m σ' H' ⟨rfl, hi, ρ', w', e', r', hf⟩
  by_cases hl : i < ds.length
  · refine .inr ⟨itd.go i w' H' e' hl, fun σ2 H2 => ∃ ρ2 w2, Ext w1 H1 w2 H2 ∧ Rep ⟨X.K, Z⟩ ρ2 w2 σ2 H2 ∧ forD g tb E (ds.drop (i + 1)) ρ2 w2, ?_, ?_⟩
    · rintro σ2 H2 ⟨ρ2, w2, e2, r2, h2⟩
      exact ⟨ds.length - (i + 1), by omega, rfl, hl, ρ2, w2, e2, r2, h2⟩
    · intro x H'' hy
      obtain ⟨d, hd, e3, k3, n3⟩ := itd.yld i w' H' x H'' Z e' (fun b z => .inl z) r'.wk hl hy
      have hdrop : ds.drop i = d :: ds.drop (i + 1) := by
        rw [List.drop_eq_getElem_cons hl]
        rw [List.getElem?_eq_getElem hl] at hd
        rw [Option.some.inj hd]
      rw [hdrop, forD] at hf
      have e'' := e'.trans e3
      refine ⟨Z, ρ', w', d, _, r'.ext e3 k3, n3, hf, fun σ4 H4 ρ4 w4 e4 r4 h4 => ?_⟩
      have e5 := e''.trans e4
      refine ⟨Z, ρ4, w4, _, r4, h4, ⟨fun σ6 H6 ρ6 w6 e6 r6 h6 => ⟨ρ6, w6, e5.trans e6, r6, h6⟩, (hk1.ext e5).rt, fun σ6 H6 ρ6 w6 e6 r6 h6 => (hk1.ext e5).nx _ _ _ _ e6 r6 h6, fun σ6 H6 ρ6 w6 e6 r6 h6 => ⟨ρ6, w6, e5.trans e6, r6, h6⟩⟩⟩
  · have hz : i = ds.length := by omega
    subst hz
    rw [List.drop_length, forD] at hf
    exact .inl ⟨itd.stop w' H' e', hk1.nx _ _ _ _ e' r' hf⟩
/-! ### while: so many turns at most -/
def whD (tc : WT) (tb : WS) (E : WEnds) : Nat → Sl → Wd → Prop
  | 0, _, _ => False
  | n + 1, ρ, w => tc ρ w fun b w1 => if b = true then tb { nx := whD tc tb E n, rt := E.rt, bk := E.nx, ct := whD tc tb E n } ρ w1 else E.nx ρ w1
def wWhile (tc : WT) (tb : WS) : WS := fun E ρ w => ∃ n, whD tc tb E n ρ w
theorem ds_while {body : List Stmt} {tc : WT} {tb : WS} (hp : PassesOwn (model X.prog X.w) X.A X.env X.xe) (hc : DT X c tc) (hb : DSs X body tb) : DS X (.While c body [] pos) (wWhile tc tb) := by
  refine ps_le (ps_while hp hc hb) fun D σ H ⟨Z, ρ, w, E, r, ⟨n, h⟩, k⟩ => ?_
  refine ⟨fun m σ' H' => ∃ ρ' w', Ext w H w' H' ∧ Rep ⟨X.K, Z⟩ ρ' w' σ' H' ∧ whD tc tb E m ρ' w', ⟨n, ρ, w, Ext.refl _ _, r, h⟩, ?_⟩
  rintro m σ' H' ⟨ρ', w', e', r', hf⟩
  cases m with
  | zero => exact hf.elim
  | succ m =>
    refine upT1 r' hf fun b H1 w1 e1 r1 h1 => ?_
    have e2 := e'.trans e1
    cases b with
    | true =>
      refine iteT ⟨fun σ2 H2 => ∃ ρ2 w2, Ext w H w2 H2 ∧ Rep ⟨X.K, Z⟩ ρ2 w2 σ2 H2 ∧ whD tc tb E m ρ2 w2, fun σ2 H2 z => ⟨m, Nat.lt_succ_self _, z⟩, ?_⟩
      refine ⟨Z, ρ', w1, { nx := whD tc tb E m, rt := E.rt, bk := E.nx, ct := whD tc tb E m }, r1, by simpa using h1, ⟨fun σ6 H6 ρ6 w6 e6 r6 h6 => ⟨ρ6, w6, e2.trans e6, r6, h6⟩, (k.ext e2).rt, fun σ6 H6 ρ6 w6 e6 r6 h6 => (k.ext e2).nx _ _ _ _ e6 r6 h6, fun σ6 H6 ρ6 w6 e6 r6 h6 => ⟨ρ6, w6, e2.trans e6, r6, h6⟩⟩⟩
    | false => exact iteF ((k.ext e2).nx _ _ _ _ (Ext.refl _ _) r1 (by simpa using h1))
end
end Pd

/-! comprehensions -/
namespace Pd
open PySem L2

theorem wipe_in {σ : St} {i : Nat} : ∀ {vs : List Nat}, i ∈ vs → i < σ.length → (wipe σ vs)[i]? = some none
  | [], h, _ => by cases h
  | v :: vs, h, hl => by
    unfold wipe
    by_cases e : v = i
    · subst e
      exact List.getElem?_set_self (by rw [wipe_length]; exact hl)
    · rw [List.getElem?_set_ne e]
      rcases List.mem_cons.mp h with z | z
      · exact absurd z.symm e
      · exact wipe_in z hl
theorem wipe_eq {σ τ : St} {vs : List Nat} (hl : σ.length = τ.length) (h : ∀ i, i ∉ vs → σ[i]? = τ[i]?) : wipe σ vs = wipe τ vs := by
  apply List.ext_getElem?
  intro i
  by_cases hi : i ∈ vs
  · by_cases hk : i < σ.length
    · rw [wipe_in hi hk, wipe_in hi (by omega)]
    · rw [List.getElem?_eq_none (by rw [wipe_length]; omega), List.getElem?_eq_none (by rw [wipe_length]; omega)]
  · rw [wipe_out hi, wipe_out hi, h i hi]
theorem wipe_set {σ : St} {i : Nat} {o : Option V} {vs : List Nat} (h : i ∈ vs) : wipe (σ.set i o) vs = wipe σ vs :=
  wipe_eq (by simp) fun j hj => by
    have ne : i ≠ j := fun e => hj (by rw [← e]; exact h)
    rw [List.getElem?_set_ne ne]
theorem wipe_wipe {σ : St} {vs : List Nat} : wipe (wipe σ vs) vs = wipe σ vs := wipe_eq (wipe_length _ _) fun i hi => wipe_out hi
def wipeD (ρ : Sl) : List Nat → Sl
  | [] => ρ
  | v :: vs => (wipeD ρ vs).set v none
theorem wipeD_length (ρ : Sl) : ∀ vs : List Nat, (wipeD ρ vs).length = ρ.length
  | [] => rfl
  | v :: vs => by unfold wipeD; rw [List.length_set, wipeD_length ρ vs]
theorem wipeD_some {ρ : Sl} {i : Nat} {x : PV} : ∀ {vs : List Nat}, (wipeD ρ vs)[i]? = some (some x) → ρ[i]? = some (some x) ∧ i ∉ vs
  | [], h => ⟨h, by simp⟩
  | v :: vs, h => by
    unfold wipeD at h
    by_cases hi : v = i
    · subst hi
      by_cases hv : v < (wipeD ρ vs).length
      · rw [List.getElem?_set_self hv] at h; cases h
      · rw [List.getElem?_eq_none (by simpa using hv)] at h; cases h
    · rw [List.getElem?_set_ne hi] at h
      obtain ⟨h1, h2⟩ := wipeD_some h
      exact ⟨h1, by simp only [List.mem_cons, not_or]; exact ⟨fun e => hi e.symm, h2⟩⟩
theorem Rep.wipe {K : Kz} {ρ : Sl} {w : Wd} {σ : St} {H : Hp} (r : Rep K ρ w σ H) (vs : List Nat) : Rep K (wipeD ρ vs) w (L2.wipe σ vs) H :=
  ⟨by rw [wipeD_length, wipe_length]; exact r.len, fun i d h => by
    obtain ⟨h1, h2⟩ := wipeD_some h
    obtain ⟨v, h3, h4⟩ := r.sl i d h1
    exact ⟨v, by rw [wipe_out h2]; exact h3, h4⟩, r.wk⟩
/-- targets of a comprehension: they store its own names alone -/
def upGw (K : Frag) (vs : List Nat) (g : WG) : TG := fun v σ H Q => ∃ Z ρ w d Q', Rep ⟨K, Z⟩ ρ w σ H ∧ Dn ⟨K, Z⟩ w H v d ∧ g d ρ w Q' ∧ ∀ σ' H' ρ' w', Ext w H w' H' → Rep ⟨K, Z⟩ ρ' w' σ' H' → L2.wipe σ' vs = L2.wipe σ vs → Q' ρ' w' → Q σ' H'
def upGsw (K : Frag) (vs : List Nat) (g : WGs) : TGs := fun us σ H Q => ∃ Z ρ w ds Q', Rep ⟨K, Z⟩ ρ w σ H ∧ DnAll ⟨K, Z⟩ w H us ds ∧ g ds ρ w Q' ∧ ∀ σ' H' ρ' w', Ext w H w' H' → Rep ⟨K, Z⟩ ρ' w' σ' H' → L2.wipe σ' vs = L2.wipe σ vs → Q' ρ' w' → Q σ' H'
abbrev DGw (X : Cx) (vs : List Nat) (tg : Expr) (g : WG) : Prop := PG X tg (upGw X.K vs g)
section
variable {X : Cx} {tg e it elt : Expr} {te : WE} {pos p : Pos} {vs : List Nat}
theorem dgw_name {i : Nat} {x : Str} (hN : X.N.Nodup) (hi : X.N[i]? = some x) (hx : Loc X.env.scope x) (hm : i ∈ vs) (hf : X.fn x = true ∨ X.env.scope.names.lookup x = some .local := by first | exact .inl rfl | exact .inr rfl | assumption) : DGw X vs (.Name x pos) (wName i) :=
  pg_le (pg_name hN hi hx hf) fun v σ H Q ⟨Z, ρ, w, d, Q', r, n, h, k⟩ => k _ _ _ _ (Ext.refl _ _) (r.set n i) (wipe_set hm) h
theorem dgsw_nil : PGs X [] (upGsw X.K vs wgNil) := pgs_le pgs_nil fun us σ H Q ⟨Z, ρ, w, ds, Q', r, n, h, k⟩ => by
  cases n with
  | nil => exact ⟨rfl, k _ _ _ _ (Ext.refl _ _) r rfl h⟩
  | cons _ _ => exact h.elim
theorem dgsw_cons {es : List Expr} {g : WG} {gs : WGs} (h1 : DGw X vs tg g) (h2 : PGs X es (upGsw X.K vs gs)) (hs : (assignEach (tg :: es) X.env).map (·.2) = assign tg X.env :: (assignEach es X.env).map (·.2) := by rfl) : PGs X (tg :: es) (upGsw X.K vs (wgCons g gs)) :=
  pgs_le (pgs_cons h1 h2 hs) fun us σ H Q ⟨Z, ρ, w, ds, Q', r, n, h, k⟩ => by
    cases n with
    | nil => exact h.elim
    | cons n1 n2 =>
      refine ⟨_, _, rfl, Z, ρ, w, _, _, r, n1, h, fun σ1 H1 ρ1 w1 e1 r1 q1 h1 => ?_⟩
      exact ⟨Z, ρ1, w1, _, _, r1, n2.ext e1, h1, fun σ2 H2 ρ2 w2 e2 r2 q2 h2 => k _ _ _ _ (e1.trans e2) r2 (q2.trans q1) h2⟩
theorem dgw_tup {es : List Expr} {k : Nat} {gs : WGs} {n : Nat} (hc : X.calm = true) (h : PGs X es (upGsw X.K vs gs))
    (hn : (assignEach es X.env).length = n := by rfl) (hst : (assignEach es X.env).findIdx? (·.1) = none := by rfl) : DGw X vs (.Tuple es k pos) (wgTup n gs) :=
  pg_le (pg_tup hc h hn hst) fun v σ H Q ⟨Z, ρ, w, d, Q', r, n1, h, k⟩ => by
    cases n1 with
    | tup hp hn => exact ⟨_, _, rfl, hp.sq, by rw [hn.length]; exact h.1, Z, ρ, w, _, _, r, hn, h.2, k⟩
    | _ => exact h.elim
def wYes : WT := fun _ w Q => Q true w
abbrev DTs (X : Cx) (ifs : List Expr) (t : WT) : Prop := PTs X ifs (upT X.K t)
theorem dts_nil : DTs X [] wYes := ⟨fun pins s σ H Q I ⟨Z, ρ, w, Q', r, h, k⟩ => (pts_nil (X := X)).run pins s σ H Q I (k _ _ ⟨w, Ext.refl _ _, r.wk, h⟩)⟩
theorem dts_one {c : Expr} {t : WT} (h : DT X c t) : DTs X [c] t := pts_one h
def compD (g : WG) (tt : WT) (te : WE) (ρ : Sl) (k : List PV → Wd → Prop) : List PV → List PV → Wd → Prop
  | [], acc, w => k acc w
  | d :: r, acc, w => g d ρ w fun ρ1 w1 => tt ρ1 w1 fun b w2 => if b = true then te ρ1 w2 fun y w3 => compD g tt te ρ k r (acc ++ [y]) w3 else compD g tt te ρ k r acc w2
def wLc (wi : WI) (g : WG) (tt : WT) (te : WE) (vs : List Nat) : WE := fun ρ w Q => wi ρ w fun ds w1 => ds.length < sizeLine ∧ compD g tt te (wipeD ρ vs) (fun acc w2 => Q (.lst acc) w2) ds [] w1
theorem Wk.less {K : Kz} {w : Wd} {H : Hp} {Z' : Addr → Prop} (k : Wk K w H) (z : ∀ b, Z' b → K.Z b) : Wk ⟨K.K, Z'⟩ w H :=
  ⟨fun a m h => by
    cases k.at_ a m h with
    | lst h1 h2 => exact .lst h1 (h2.less z)
    | dct h1 h2 => exact .dct h1 (Paired.mapP h2 fun _ _ q => ⟨q.1, q.2.less z⟩)
    | ins h1 h2 => exact .ins h1 (Paired.mapP h2 fun _ _ q => ⟨q.1, q.2.less z⟩), fun b q => k.zin b (z b q)⟩
/-- D is hidden from here on -/
abbrev zAdd (Z : Addr → Prop) (D : Addr) : Addr → Prop := fun b => Z b ∨ b = D
mutual
theorem Dn.upd {K : Kz} {w : Wd} {H : Hp} {D : Addr} {o : HO} (hz : K.Z D) : ∀ {v : V} {d : PV}, Dn K w H v d → Dn K w (L2.upd H D o) v d
  | _, _, .non => .non
  | _, _, .bl b => .bl b
  | _, _, .int i => .int i
  | _, _, .str x => .str x
  | _, _, .ref a => .ref a
  | _, _, .ty n => .ty n
  | _, _, .tup h r => .tup (by
      rcases h with ⟨h1, h2, h3⟩ | h
      · exact .inl ⟨h1, h2, by rw [upd_ne (fun e => h2 (by rw [e]; exact hz))]; exact h3⟩
      · exact .inr h) (DnAll.upd hz r)
  | _, _, .lst h r => .lst ⟨h.1, h.2.1, by rw [upd_ne (fun e => h.2.1 (by rw [e]; exact hz))]; exact h.2.2⟩ (DnAll.upd hz r)
  | _, _, .scr h r => .scr (by
      rcases h with ⟨h1, h2, h3⟩ | h
      · refine .inl ⟨h1, h2, ?_⟩
        unfold Rd
        rw [upd_ne (fun e => h2 (by rw [e]; exact hz))]
        exact h3
      · exact .inr h) (DnAll.upd hz r)
theorem DnAll.upd {K : Kz} {w : Wd} {H : Hp} {D : Addr} {o : HO} (hz : K.Z D) : ∀ {vs : List V} {ds : List PV}, DnAll K w H vs ds → DnAll K w (L2.upd H D o) vs ds
  | _, _, .nil => .nil
  | _, _, .cons h r => .cons (h.upd hz) (DnAll.upd hz r)
end
theorem Wk.upd {K : Kz} {w : Wd} {H : Hp} {D : Addr} {o : HO} (k : Wk K w H) (hz : K.Z D) : Wk K w (L2.upd H D o) := by
  have hw := (k.zin D hz).1
  refine ⟨fun a m h => ?_, fun b q => ?_⟩
  · have na : a ≠ D := fun e => by rw [e, hw] at h; cases h
    have hh : L2.upd H D o a = H a := upd_ne na
    cases k.at_ a m h with
    | lst h1 h2 => exact .lst (hh.trans h1) (h2.upd hz)
    | dct h1 h2 => exact .dct (hh.trans h1) (Paired.mapP h2 fun _ _ q => ⟨q.1, q.2.upd hz⟩)
    | ins h1 h2 => exact .ins (hh.trans h1) (Paired.mapP h2 fun _ _ q => ⟨q.1, q.2.upd hz⟩)
  · obtain ⟨h1, u, h2⟩ := k.zin b q
    by_cases e : b = D
    · subst e; exact ⟨h1, o, upd_same⟩
    · exact ⟨h1, u, by rw [upd_ne e]; exact h2⟩
/-- a new object is laid and hidden -/
theorem Wk.hid {K : Frag} {Z : Addr → Prop} {w : Wd} {H : Hp} {D : Addr} {o : HO} (k : Wk ⟨K, Z⟩ w H) (hD : H D = none) : Wk ⟨K, zAdd Z D⟩ w (L2.upd H D o) := by
  have k' := k.new (o := o) hD
  have e := Ext.new (o := o) k hD
  have z : Zx ⟨K, Z⟩ H (zAdd Z D) := fun b q => q.elim .inl fun e => .inr (by rw [e]; exact hD)
  refine ⟨fun a m h => ?_, fun b q => ?_⟩
  · have na : a ≠ D := fun e => by rw [e, k.off hD] at h; cases h
    have hh : L2.upd H D o a = H a := upd_ne na
    cases k.at_ a m h with
    | lst h1 h2 => exact .lst (hh.trans h1) ((h2.hide z).ext e)
    | dct h1 h2 => exact .dct (hh.trans h1) (Paired.mapP h2 fun _ _ q => ⟨q.1, (q.2.hide z).ext e⟩)
    | ins h1 h2 => exact .ins (hh.trans h1) (Paired.mapP h2 fun _ _ q => ⟨q.1, (q.2.hide z).ext e⟩)
  · rcases q with q | q
    · obtain ⟨h1, u, h2⟩ := k.zin b q
      exact ⟨h1, u, (e b u h1 h2).2⟩
    · subst q
      exact ⟨k.off hD, o, upd_same⟩
theorem lc_up {K : Frag} {wi : WI} {g : WG} {tt : WT} {te : WE} {vs : List Nat} {σ : St} {H : Hp} {Q : VK} (h : upE K (wLc wi g tt te vs) σ H Q) : tLc (upI K wi) (upGw K vs g) (upT K tt) (upE K te) vs σ H Q := by
  obtain ⟨Z, ρ, w, Q', r, h, k⟩ := h
  refine ⟨Z, ρ, w, _, r, h, fun J H1 ds w1 e1 k1 itd h1 => ?_⟩
  obtain ⟨hsz, h1⟩ := h1
  intro D hD
  have zx : Zx ⟨K, Z⟩ H1 (zAdd Z D) := fun b q => q.elim .inl fun e => .inr (by rw [e]; exact hD)
  have zD : (⟨K, zAdd Z D⟩ : Kz).Z D := .inr rfl
  have rp1 : Rep ⟨K, Z⟩ ρ w1 σ H1 := r.ext e1 k1
  have hDw : w1 D = none := k1.off hD
  refine ⟨fun i m H' => m = ds.length - i ∧ i ≤ ds.length ∧ ∃ acc accV w', Ext w1 H1 w' H' ∧ Wk ⟨K, zAdd Z D⟩ w' H' ∧ H' D = some (.lst accV) ∧ DnAll ⟨K, zAdd Z D⟩ w' H' accV acc ∧ acc.length ≤ i ∧ compD g tt te (wipeD ρ vs) (fun acc w2 => Q' (.lst acc) w2) (ds.drop i) acc w',
    ⟨_, rfl, Nat.zero_le _, [], [], w1, Ext.new k1 hD, k1.hid hD, upd_same, .nil, Nat.le_refl _, h1⟩, ?_⟩
  rintro i m H' ⟨rfl, hi, acc, accV, w', e', k', hH, hn, hl, hc⟩
  by_cases hlt : i < ds.length
  · refine .inr ⟨itd.go i w' H' e' hlt, fun H2 => ∃ acc accV w2, Ext w1 H1 w2 H2 ∧ Wk ⟨K, zAdd Z D⟩ w2 H2 ∧ H2 D = some (.lst accV) ∧ DnAll ⟨K, zAdd Z D⟩ w2 H2 accV acc ∧ acc.length ≤ i + 1 ∧ compD g tt te (wipeD ρ vs) (fun acc w2 => Q' (.lst acc) w2) (ds.drop (i + 1)) acc w2, ?_, ?_⟩
    · rintro H2 ⟨acc2, accV2, w2, z⟩
      exact ⟨ds.length - (i + 1), by omega, rfl, hlt, acc2, accV2, w2, z⟩
    · intro x H'' hy
      obtain ⟨d, hd, e3, k3, n3⟩ := itd.yld i w' H' x H'' (zAdd Z D) e' zx k' hlt hy
      have hdrop : ds.drop i = d :: ds.drop (i + 1) := by
        rw [List.drop_eq_getElem_cons hlt]
        rw [List.getElem?_eq_getElem hlt] at hd
        rw [Option.some.inj hd]
      rw [hdrop, compD] at hc
      have e13 := e'.trans e3
      have rp3 : Rep ⟨K, zAdd Z D⟩ (wipeD ρ vs) w' (L2.wipe σ vs) H'' :=
        ⟨by rw [wipeD_length, wipe_length]; exact r.len, fun j d' hj => by
          obtain ⟨q1, q2⟩ := wipeD_some hj
          obtain ⟨v, q3, q4⟩ := rp1.sl j d' q1
          exact ⟨v, by rw [wipe_out q2]; exact q3, (q4.hide zx).ext e13⟩, k3⟩
      refine ⟨zAdd Z D, wipeD ρ vs, w', d, _, rp3, n3, hc, fun σ4 H4 ρ4 w4 e4 r4 q4 h4 => ⟨q4.trans wipe_wipe, ?_⟩⟩
      refine upT1 r4 h4 fun b H5 w5 e5 r5 h5 => ?_
      have hDD : w' D = none := (k'.zin D zD).1
      cases b with
      | false =>
        refine iteF ⟨acc, accV, w5, e13.trans (e4.trans e5), r5.wk, ?_, hn.ext (e3.trans (e4.trans e5)), by omega, by simpa using h5⟩
        exact ((e3.trans (e4.trans e5)) D _ hDD hH).2
      | true =>
        refine iteT (up1 r5 (by simpa using h5) fun y H6 dy w6 e6 r6 n6 h6 => ?_)
        have e36 := e3.trans (e4.trans (e5.trans e6))
        refine ⟨accV, (e36 D _ hDD hH).2, by rw [hn.length]; omega, ?_⟩
        refine ⟨acc ++ [dy], accV ++ [y], w6, ?_, r6.wk.upd zD, upd_same, (hn.ext e36).append (.cons n6 .nil) |>.upd zD, by simp; omega, h6⟩
        have e16 := e'.trans e36
        intro b o q1 q2
        have nb : b ≠ D := ne_of_none q2 hD
        exact ⟨(e16 b o q1 q2).1, by rw [upd_ne nb]; exact (e16 b o q1 q2).2⟩
  · have hz : i = ds.length := by omega
    subst hz
    rw [List.drop_length, compD] at hc
    refine .inl ⟨itd.stop w' H' e', k _ _ ⟨.lst acc, w', e1.trans e', k'.less (Z' := Z) (fun b q => Or.inl q), .lst ⟨(k'.zin D zD).1, k1.nz hD, hH⟩ (hn.less (Z' := Z) fun b q => Or.inl q), hc⟩⟩
theorem de_lc {ifs : List Expr} {scope : Scope} {own : List (Str × Nat)} {wi : WI} {g : WG} {tt : WT} (hc : X.calm = true) (hN : X.N.Nodup) (hi : DI X tg it wi) (ok : BlkOk X.N X.env.scope scope own)
    (hg : ∀ (s : Shared) (H : Hp) (C : Addr) (cl : List (Str × Addr)) (fp : List Addr), DGw (X.blk s H scope (compEnvC scope cl C X.env) fp) (own.map (·.2)) tg g) (ht : ∀ (s : Shared) (H : Hp) (C : Addr) (cl : List (Str × Addr)) (fp : List Addr), DTs (X.blk s H scope (compEnvC scope cl C X.env) fp) ifs tt)
    (he : ∀ (s : Shared) (H : Hp) (C : Addr) (cl : List (Str × Addr)) (fp : List Addr), DE (X.blk s H scope (compEnvC scope cl C X.env) fp) elt te) (hs : ∀ x, foldedSetIterable it X.env x = pure x := by intro _; rfl) :
    DE X (.ListComp elt [⟨tg, it, ifs, 0⟩] scope pos) (wLc wi g tt te (own.map (·.2))) :=
  pe_le (pe_lc hc hN hi ok hg ht he hs) fun _ _ _ h => lc_up h
/-- y = [..] -/
theorem ds_setLc {i : Nat} {y : Str} {py spos : Pos} {ifs : List Expr} {scope : Scope} {own : List (Str × Nat)} {wi : WI} {g : WG} {tt : WT} (hc : X.calm = true) (hN : X.N.Nodup) (hy : X.N[i]? = some y) (hyl : X.env.scope.names.lookup y = some .local)
    (hsw : swapsWith (.ListComp elt [⟨tg, it, ifs, 0⟩] scope pos) (some (.Name y py)) spos.line X.env = pure true) (hi : DI X tg it wi) (ok : BlkOk X.N X.env.scope scope own)
    (hg : ∀ (s : Shared) (H : Hp) (C : Addr) (cl : List (Str × Addr)) (fp : List Addr), DGw (X.blk s H scope (compEnvC scope cl C X.env) fp) (own.map (·.2)) tg g) (ht : ∀ (s : Shared) (H : Hp) (C : Addr) (cl : List (Str × Addr)) (fp : List Addr), DTs (X.blk s H scope (compEnvC scope cl C X.env) fp) ifs tt)
    (he : ∀ (s : Shared) (H : Hp) (C : Addr) (cl : List (Str × Addr)) (fp : List Addr), DE (X.blk s H scope (compEnvC scope cl C X.env) fp) elt te) (hs : ∀ x, foldedSetIterable it X.env x = pure x := by intro _; rfl) :
    DS X (.Assign [.Name y py] (.ListComp elt [⟨tg, it, ifs, 0⟩] scope pos) spos) (wAsg (wLc wi g tt te (own.map (·.2))) (wName i)) :=
  ps_le (ps_setLc hc hN hy hyl hsw hi ok hg ht he hs) fun D σ H ⟨Z, ρ, w, E, r, h, k⟩ => lc_up ⟨Z, ρ, w, _, r, h, fun v H1 ⟨d, w1, e1, k1, n, h1⟩ => k.nx _ _ _ _ e1 ((r.ext e1 k1).set n i) h1⟩
end
end Pd

/-! methods -/
namespace Pd
open PySem L2

def strsOf : List PV → Option (List Str)
  | [] => some []
  | .str b :: r => (strsOf r).map (b :: ·)
  | _ => none
theorem strsOf_dn {K : Kz} {w : Wd} {H : Hp} : ∀ {es : List PV} {bs : List Str} {xs : List V}, strsOf es = some bs → DnAll K w H xs es → xs = bs.map V.str
  | [], _, _, h, n => by cases h; cases n; rfl
  | .str b :: r, bs, _, h, n => by
    cases n with
    | cons h1 h2 =>
      cases h1
      cases e : strsOf r with
      | none => simp [strsOf, e] at h
      | some cs =>
        have h' : b :: cs = bs := by simpa [strsOf, e] using h
        subst h'
        rw [strsOf_dn e h2]; rfl
  | .non :: _, _, _, h, _ => by simp [strsOf] at h
  | .int _ :: _, _, _, h, _ => by simp [strsOf] at h
  | .bl _ :: _, _, _, h, _ => by simp [strsOf] at h
  | .tup _ :: _, _, _, h, _ => by simp [strsOf] at h
  | .lst _ :: _, _, _, h, _ => by simp [strsOf] at h
  | .scr _ :: _, _, _, h, _ => by simp [strsOf] at h
  | .ref _ :: _, _, _, h, _ => by simp [strsOf] at h
  | .ty _ :: _, _, _, h, _ => by simp [strsOf] at h
def onS (x : PV) (k : Str → Prop) : Prop := match x with
  | .str a => k a
  | _ => False
def rJoin (a : Str) (y : PV) (w2 : Wd) (Q : WQ) : Prop := ∃ es ys, seqOf w2 y = some es ∧ strsOf es = some ys ∧ (ys.map (·.length)).sum + ys.length * a.length ≤ 16777216 ∧ Q (.str (Txt.join a ys)) w2
def wJoin (to te : WE) : WE := fun ρ w Q => to ρ w fun x w1 => onS x fun a => te ρ w1 fun y w2 => rJoin a y w2 Q
section
variable {X : Cx} {o e : Expr} {to te : WE} {pos apos : Pos}
theorem de_join (ho : DE X o to) (he : DE X e te) (hs : starEach [e] X.env = [(false, eval e X.env)] := by rfl) (hbase : attributeBase o "join" X.env (eval o X.env) = eval o X.env := by rfl) (hline : (apos.endLine == pos.line) = true := by rfl) :
    DE X (.Call (.Attribute o "join" apos) [e] [] pos) (wJoin to te) := by
  refine pe_le (pe_join (X := X) (apos := apos) (pos := pos) ho he hs hbase hline) fun σ H Q ⟨Z, ρ, w, Q', r, h, k⟩ => ?_
  refine up1 r h fun x H1 d w1 e1 r1 n1 h1 => ?_
  cases n1 with
  | str a =>
    refine ⟨⟨a, rfl⟩, up1 r1 h1 fun y H2 dy w2 e2 r2 n2 h2 => ?_⟩
    obtain ⟨es, ys, hq, hs, hz, q⟩ := h2
    obtain ⟨p, xs, rfl, hh, hn⟩ := seqOf_sq r2.wk n2 hq
    have ee := strsOf_dn hs hn
    subst ee
    exact ⟨a, p, ys, rfl, rfl, hh.imp id fun z => z.1.sq, hz, k _ _ (post_trans (e1.trans e2) (post_same r2.wk (.str _) q))⟩
  | _ => exact h1.elim
/-- a method of a built-in class, as a rule of data -/
structure MeD (X : Cx) (name : Str) (tyD : PV → Wd → Prop) (rD : PV → List PV → Wd → WQ → Prop) : Prop where
  ex : ∃ (T id : String) (r : V → List V → Hp → VK → Prop), PlainAttrs T ∧ Slot T name id ∧ typeOf (.builtin id) = pure (.type "method_descriptor") ∧ MtR X id r ∧
    (∀ (Z : Addr → Prop) w H x d, Wk ⟨X.K, Z⟩ w H → Dn ⟨X.K, Z⟩ w H x d → tyD d w → tyV X.K T x H) ∧
    ∀ (Z : Addr → Prop) x xs H d ds w Q' (Q : VK), Wk ⟨X.K, Z⟩ w H → Dn ⟨X.K, Z⟩ w H x d → DnAll ⟨X.K, Z⟩ w H xs ds → rD d ds w Q' → (∀ v H', Post ⟨X.K, Z⟩ w H Q' v H' → Q v H') → r x xs H Q
def wBM (tyD : PV → Wd → Prop) (rD : PV → List PV → Wd → WQ → Prop) (to : WE) (t : WA) : WE := fun ρ w Q => to ρ w fun x w1 => tyD x w1 ∧ t ρ w1 fun ds w2 => rD x ds w2 Q
variable {es : List Expr} {t : WA} {name : Str} {tyD : PV → Wd → Prop} {rD : PV → List PV → Wd → WQ → Prop}
theorem de_m (h : MeD X name tyD rD) (ho : DE X o to) (ha : DA X (e :: es) t) (hbase : attributeBase o name X.env (eval o X.env) = eval o X.env := by rfl)
    (hfew : ((backTo pos (starEach (e :: es) X.env)).all (fun x => !x.1) && (backToKw pos (keywordEach [] X.env)).all (fun x => x.1.isSome) && decide ((e :: es).length + ([] : List Keyword).length + (if ([] : List Keyword).isEmpty then 0 else 1) < 30)) = true := by rfl)
    (hline : (apos.endLine == pos.line) = true := by rfl) (hs : starEach (e :: es) X.env = (false, eval e X.env) :: starEach es X.env := by rfl) (hplain : (backTo pos (starEach es X.env)).any (·.1) = false := by rfl) :
    DE X (.Call (.Attribute o name apos) (e :: es) [] pos) (wBM tyD rD to t) := by
  obtain ⟨T, id, r, h1, h2, h3, h4, h5, h6⟩ := h.ex
  refine pe_le (pe_bm h1 h2 h3 h4 ho ha hbase hfew hline hs hplain) fun σ H Q ⟨Z, ρ, w, Q', r, h, k⟩ => ?_
  refine up1 r h fun x H1 d w1 e1 r1 n1 q1 => ?_
  refine ⟨h5 Z w1 H1 x d r1.wk n1 q1.1, upA1 r1 q1.2 fun xs H2 ds w2 e2 r2 n2 q2 => ?_⟩
  exact h6 Z x xs H2 d ds w2 Q' Q r2.wk (n1.ext e2) n2 q2 fun v H' p => k v H' (post_trans (e1.trans e2) p)
theorem de_m0 (h : MeD X name tyD rD) (ho : DE X o to) (hbase : attributeBase o name X.env (eval o X.env) = eval o X.env := by rfl) (hline : (apos.endLine == pos.line) = true := by rfl) :
    DE X (.Call (.Attribute o name apos) [] [] pos) (wBM tyD rD to wNil) := by
  obtain ⟨T, id, r, h1, h2, h3, h4, h5, h6⟩ := h.ex
  refine pe_le (pe_bm0 h1 h2 h3 h4 ho hbase hline) fun σ H Q ⟨Z, ρ, w, Q', r, h, k⟩ => ?_
  refine up1 r h fun x H1 d w1 e1 r1 n1 q1 => ?_
  exact ⟨h5 Z w1 H1 x d r1.wk n1 q1.1, h6 Z x [] H1 d [] w1 Q' Q r1.wk n1 .nil q1.2 fun v H' p => k v H' (post_trans e1 p)⟩
/-- a list that may change -/
def isM (d : PV) (w : Wd) : Prop := match d with
  | .ref a => match w a with
    | some (.lst _) => True
    | _ => False
  | _ => False
theorem isM_ty {K : Frag} {Z : Addr → Prop} {w : Wd} {H : Hp} {x : V} {d : PV} (k : Wk ⟨K, Z⟩ w H) (n : Dn ⟨K, Z⟩ w H x d) (h : isM d w) : ∃ a ds xs, d = .ref a ∧ x = .ref a ∧ w a = some (.lst ds) ∧ H a = some (.lst xs) ∧ DnAll ⟨K, Z⟩ w H xs ds := by
  unfold isM at h
  split at h
  · split at h
    · rename_i e
      cases n
      cases k.at_ _ _ e with
      | lst h1 h2 => exact ⟨_, _, _, rfl, rfl, e, h1, h2⟩
    · exact h.elim
  · exact h.elim
/-- what may change is changed -/
theorem post_put {K : Kz} {w : Wd} {H : Hp} {Q : WQ} {a : Addr} {m : MO} {ds : List PV} {xs : List V} {v : V} {d : PV} (k : Wk K w H) (h : w a = some m) (n : DnAll K w H xs ds) (nv : Dn K w H v d) (q : Q d (wset w a (.lst ds))) : Post K w H Q v (upd H a (.lst xs)) :=
  ⟨d, _, Ext.put h, k.put h (.lst upd_same (n.ext (Ext.put h))), nv.ext (Ext.put h), q⟩
def mAppend : PV → List PV → Wd → WQ → Prop := fun d es w Q => match d, es with
  | .ref a, [y] => match w a with
    | some (.lst ds) => ds.length < sizeLine ∧ Q .non (wset w a (.lst (ds ++ [y])))
    | _ => False
  | _, _ => False
theorem me_append : MeD X "append" isM mAppend := by
  refine ⟨"list", "list.append", _, PySem.F.plainAttrs_list, PySem.F.slot_list_append, PySem.F.type_list_append, mt_append, fun Z w H x d k n h => ?_, fun Z x xs H d ds w Q' Q k n na h kq => ?_⟩
  · obtain ⟨a, ds, xs, rfl, rfl, h1, h2, h3⟩ := isM_ty k n h
    exact .inl ⟨rfl, _, SqL.of h2⟩
  · unfold mAppend at h
    split at h
    · split at h
      · rename_i e
        obtain ⟨v, rfl, nv⟩ := dall1 na
        cases n
        cases k.at_ _ _ e with
        | lst h1 h2 => exact ⟨_, _, v, rfl, rfl, h1, by rw [h2.length]; exact h.1, kq _ _ (post_put k e (h2.append (.cons nv .nil)) .non h.2)⟩
      · exact h.elim
    · exact h.elim
def mExtend : PV → List PV → Wd → WQ → Prop := fun d es w Q => match d, es with
  | .ref a, [y] => match w a, vw w y with
    | some (.lst ds), .lst zs => ds.length + zs.length ≤ sizeLine ∧ Q .non (wset w a (.lst (ds ++ zs)))
    | _, _ => False
  | _, _ => False
theorem me_extend : MeD X "extend" isM mExtend := by
  refine ⟨"list", "list.extend", _, PySem.F.plainAttrs_list, PySem.F.slot_list_extend, PySem.F.type_list_extend, mt_extend, fun Z w H x d k n h => ?_, fun Z x xs H d ds w Q' Q k n na h kq => ?_⟩
  · obtain ⟨a, ds, xs, rfl, rfl, h1, h2, h3⟩ := isM_ty k n h
    exact .inl ⟨rfl, _, SqL.of h2⟩
  · unfold mExtend at h
    split at h
    · split at h
      · rename_i e e2
        obtain ⟨v, rfl, nv⟩ := dall1 na
        cases n
        obtain ⟨b, ys, rfl, hb, hn⟩ := vwL k nv e2
        cases k.at_ _ _ e with
        | lst h1 h2 => exact ⟨_, _, _, _, rfl, rfl, h1, hb, by rw [h2.length, hn.length]; exact h.1, kq _ _ (post_put k e (h2.append hn) .non h.2)⟩
      · exact h.elim
    · exact h.elim
end
end Pd

/-! defs of the text, the law's end -/
namespace Pd
open PySem L2

/-- the module's own constants -/
def GT (K : Frag) (mg : Str → Option Value) (x : Str) (ds : List PV) : Prop := ∃ a xs, mg x = some (.ref a) ∧ WrT K a xs ∧ ∀ (Z : Addr → Prop) w H, DnAll ⟨K, Z⟩ w H xs ds
def GI (mg : Str → Option Value) (x : Str) (i : Int) : Prop := ∃ t, mg x = some (.int i t)
def GS (mg : Str → Option Value) (x : Str) (i : Str) : Prop := ∃ t, mg x = some (.str i t)
section
variable {X : Cx} {x : Str} {pos : Pos}
theorem de_gI {i : Int} (hg : Gl X x) (hm : GI X.mg x i) (hd : (x == ("__debug__" : Str)) = false := by decide) : DE X (.Name x pos) (wC (.int i)) := by
  obtain ⟨t, h⟩ := hm
  exact de_gInt hg h hd
theorem de_gS {i : Str} (hg : Gl X x) (hm : GS X.mg x i) (hd : (x == ("__debug__" : Str)) = false := by decide) : DE X (.Name x pos) (wC (.str i)) := by
  obtain ⟨t, h⟩ := hm
  exact de_gStr hg h hd
theorem de_gT {ds : List PV} (hg : Gl X x) (hm : GT X.K X.mg x ds) (hd : (x == ("__debug__" : Str)) = false := by decide) : DE X (.Name x pos) (wC (.tup ds)) := by
  obtain ⟨a, xs, h1, h2, h3⟩ := hm
  exact de_gTup hg h1 h2 h3 hd
end
/-- the def of that name stands in the text's written part -/
def Fx (K : Frag) (mg : Str → Option Value) (x : Str) (st : Stmt) (ps : List Str) : Prop := ∃ f fd, Fun K x x st f fd ∧ mg x = some (.ref f) ∧ Binds K fd ps []
section
variable {P : Program} {w : World} {K : Frag} {mg : Str → Option Value} {base : Heap}
theorem fx_mk {h : Heap} {x : Str} {st : Stmt} {ps : List Str} {f : Addr} {oc : Value} {od an : Option Addr} {osl : Array (Option Value)} {kV doc pm cdv ct : Value} (X : K.In h) (G : h.Ns mainGlobals mg)
    (a : PySem.W.nsIn K mainGlobals x = some (some (.ref f))) (l : K.lookup f = some ⟨oc, od, .func (PySem.W.fnOf x x (defArgs st) (defBody st) (defScope st) .none kV doc pm an cdv ct), osl⟩) (c : PySem.W.codeIn K cdv x = true) (k : PySem.W.keepIn K (.ref f) = true)
    (hb : ∀ (kV doc pm : Value) (an : Option Addr) (cdv ct : Value) (us : List Value), us.length = ps.length → bindArgs (PySem.W.fnOf x x (defArgs st) (defBody st) (defScope st) .none kV doc pm an cdv ct) ⟨us, []⟩ = pure (ps.zip us)) : Fx K mg x st ps :=
  ⟨f, _, fun_mk l c k, PySem.W.mg_of X G a, (fun_mk (st := st) l c k).binds hb⟩
theorem fd_of {x : Str} {st : Stmt} {N ps : List Str} {k : Nat} {p : PSp} {t : WS} (F : Fx K mg x st ps) (S : FnScope N ps (defScope st))
    (body : ∀ (f : Addr) (cdv : Value) (A : Around) (outer : List Env) (s : Shared) (H : Hp) (E : XK), Room k (A.deeper (PyProof.Rows.envOfC x (defScope st) s.heap.objs.size f cdv)) →
      DSs (cxOf CX0 P w K mg base N x (defScope st) f cdv A outer s H E).nox (defBody st) t)
    (len : ∀ ds w Q, p ds w Q → ds.length = ps.length) (hp : ∀ ds w' Q, p ds w' Q → t { nx := fun _ w2 => Q .non w2, rt := Q } (begin0 N ds) w') : FD P w K mg base x (k + 1) p := by
  obtain ⟨f, fd, h1, h2, h3⟩ := F
  exact fd_mk h1 h2 h3 S len fun cdv A outer s H E hr => ⟨t, body f cdv A outer s H E hr, hp⟩
/-- the law's own def -/
def pLaw : PSp := fun ds w Q => ∃ ns : List Int, ds = [.scr (ns.map PV.int)] ∧ ns.length ≤ 63 ∧ w = (fun _ => none) ∧ ∀ w', Q (.bl true) w'
theorem dn_ints {K : Kz} {w : Wd} {H : Hp} : ∀ ns : List Int, DnAll K w H (ns.map V.int) (ns.map PV.int)
  | [] => .nil
  | n :: r => .cons (.int n) (dn_ints r)
theorem law_up {H : Hp} {a : Addr} {ns : List Int} (hl : ns.length ≤ 63) (hS : SqL K H a (ns.map V.int)) : upSp K pLaw [.ref a] H (fun v _ => v = .bl true) fun _ _ _ => False := by
  refine ⟨fun _ => False, _, fun _ => none, fun d _ => d = .bl true, ⟨(fun _ _ h => nomatch h), fun _ h => False.elim h⟩, .cons (.scr (xs := ns.map V.int) (ds := ns.map PV.int) ?_ (dn_ints ns)) .nil, ⟨ns, rfl, hl, rfl, fun _ => rfl⟩, ?_⟩
  · rcases hS with h | h
    · exact .inl ⟨rfl, fun z => z, h⟩
    · exact .inr h
  · rintro v H' ⟨d, w', _, _, n, rfl⟩
    cases n
    rfl
theorem law_end {l : PySem.W.OpenLaw} {k : Nat} {q : Program} {loose : List Str} {XP : (Str → Option Value) → Heap → Prop} {YP : World → Heap → Prop} {d : DefRec} {K : Params → Frag} {x : Str} {st : Stmt}
    (hn : l.most = some 63) (hdf : d.params.defaults = []) (hr : Room k callerA) (hd : d.name = "law") (hb : ∀ (kV doc pm : Value) (an : Option Addr) (cdv ct : Value) (s : Shared) (u : Value), BindsTo s (PySem.W.fnOf "law" "law" (defArgs st) (defBody st) (defScope st) .none kV doc pm an cdv ct) ⟨[u], []⟩ [(x, u)])
    (hY : ∀ (w : World) (h : Heap), YP w h → (K w.params).In h)
    (F : ∀ (w : World) (mg : Str → Option Value) (h : Heap), (K w.params).In h → h.Ns mainGlobals mg → (∀ fa : Addr, mg "law" = some (.ref fa) → ∃ fd, Fun (K w.params) "law" "law" st fa fd) ∧
      ∀ base : Heap, (K w.params).In base → base.Ns mainGlobals mg → ∀ fa fd, mg "law" = some (.ref fa) → Fun (K w.params) "law" "law" st fa fd → FnOk l.prog w (K w.params) mg base CX0 k fa fd [x] (upSp (K w.params) pLaw)) :
    PySem.W.WalkO q loose XP YP l.row.toRowW d [] (fun f vs => PySem.call f vs) := by
  refine L2.walk_of (n := 63) (k := k) (x := x) (CX := fun _ => CX0) (sp := fun w => upSp (K w.params) pLaw) hn (by decide) hdf hr hY (fun w mg fa h hK hG hm => ?_) (fun w H a ns hl _ hS => law_up hl hS) fun _ _ _ _ _ z => z
  rw [hd] at hm
  obtain ⟨h1, h2⟩ := F w mg h hK hG
  obtain ⟨fd, hf⟩ := h1 fa hm
  refine ⟨fd, ?_, fun base b1 b2 => h2 base b1 b2 fa fd hm hf⟩
  obtain ⟨oc, od, kV, doc, pm, an, cdv, ct, osl, rfl, _, _⟩ := hf.ex
  exact hb kV doc pm an cdv ct
/-- the same of the law's def as FnOk -/
theorem fn_of_law {x : Str} {st : Stmt} {N : List Str} {k : Nat} {p : PSp} {t : WS} {fa : Addr} {fd : FuncData} (F : Fun K "law" "law" st fa fd) (S : FnScope N [x] (defScope st))
    (body : ∀ (f : Addr) (cdv : Value) (A : Around) (outer : List Env) (s : Shared) (H : Hp) (E : XK), Room k (A.deeper (PyProof.Rows.envOfC "law" (defScope st) s.heap.objs.size f cdv)) →
      DSs (cxOf CX0 P w K mg base N "law" (defScope st) f cdv A outer s H E).nox (defBody st) t)
    (len : ∀ ds w Q, p ds w Q → ds.length = 1) (hp : ∀ ds w' Q, p ds w' Q → t { nx := fun _ w2 => Q .non w2, rt := Q } (begin0 N ds) w') : FnOk P w K mg base CX0 (k + 1) fa fd [x] (upSp K p) := by
  refine F.ok S (fun vs H Q E h => ?_) fun cdv A outer s H vs Q E hr h => ?_
  · obtain ⟨Z, ds, w, Q', h1, h2, h3, _⟩ := h
    rw [h2.length]
    exact len _ _ _ h3
  · obtain ⟨Z, ds, w, Q', h1, h2, h3, h4⟩ := h
    refine ⟨_, body fa cdv A outer s H E hr, Z, begin0 N ds, w, _, begin_rep h1 h2, hp ds w Q' h3, ⟨fun σ' H' ρ' w' e r q => ?_, fun v H' q => h4 v H' q, fun _ _ _ _ _ _ q => q.elim, fun _ _ _ _ _ _ q => q.elim⟩⟩
    exact h4 _ _ ⟨.non, w', e, r.wk, .non, q⟩
end
end Pd

/-! isinstance by written classes; loops by induction -/
namespace Pd
open PySem L2

def okTy (w : Wd) : PV → Prop
  | .ref a => match w a with
    | some (.lst _) => True
    | some (.dct _) => True
    | _ => False
  | .ty _ => False
  | _ => True
def isIntP (_ : Wd) : PV → Bool
  | .int _ => true
  | .bl _ => true
  | _ => false
def isBoolP (_ : Wd) : PV → Bool
  | .bl _ => true
  | _ => false
def isStrP (_ : Wd) : PV → Bool
  | .str _ => true
  | _ => false
def isTupP (_ : Wd) : PV → Bool
  | .tup _ => true
  | _ => false
def isLstP (w : Wd) : PV → Bool
  | .lst _ => true
  | .scr _ => true
  | .ref a => match w a with
    | some (.lst _) => true
    | _ => false
  | _ => false
def isDctP (w : Wd) : PV → Bool
  | .ref a => match w a with
    | some (.dct _) => true
    | _ => false
  | _ => false
def cI (c : String) (f : Wd → PV → Bool) : RcD := fun ds w Q => match ds with
  | [x, .ty c'] => c' = c ∧ okTy w x ∧ Q (.bl (f w x)) w
  | _ => False
def cI2 (c1 c2 : String) (f1 f2 : Wd → PV → Bool) : RcD := fun ds w Q => match ds with
  | [x, .tup [.ty a, .ty b]] => (a = c1 ∧ b = c2) ∧ okTy w x ∧ Q (.bl (f1 w x || f2 w x)) w
  | _ => False
def TyRule (c : String) (f : Wd → PV → Bool) : Prop := knownC c = true ∧ ∀ w x, okTy w x → ∃ t, tyName w x = some t ∧ subTy t c = f w x
theorem ty_by {c : String} {f : Wd → PV → Bool} (hk : knownC c = true) (h0 : subTy "NoneType" c = f (fun _ => none) .non) (h1 : ∀ w b, subTy "bool" c = f w (.bl b)) (h2 : ∀ w b, subTy "int" c = f w (.int b)) (h3 : ∀ w b, subTy "str" c = f w (.str b))
    (h4 : ∀ w b, subTy "tuple" c = f w (.tup b)) (h5 : ∀ w b, subTy "list" c = f w (.lst b)) (h6 : ∀ w b, subTy "list" c = f w (.scr b)) (h7 : ∀ w a xs, w a = some (.lst xs) → subTy "list" c = f w (.ref a)) (h8 : ∀ w a xs, w a = some (.dct xs) → subTy "dict" c = f w (.ref a))
    (h9 : ∀ w, f w .non = f (fun _ => none) .non) : TyRule c f := by
  refine ⟨hk, fun w x h => ?_⟩
  cases x with
  | non => exact ⟨_, rfl, by rw [h9]; exact h0⟩
  | bl b => exact ⟨_, rfl, h1 w b⟩
  | int b => exact ⟨_, rfl, h2 w b⟩
  | str b => exact ⟨_, rfl, h3 w b⟩
  | tup b => exact ⟨_, rfl, h4 w b⟩
  | lst b => exact ⟨_, rfl, h5 w b⟩
  | scr b => exact ⟨_, rfl, h6 w b⟩
  | ref a =>
    simp only [okTy] at h
    split at h
    · rename_i e; exact ⟨"list", by simp only [tyName, e], h7 w a _ e⟩
    · rename_i e; exact ⟨"dict", by simp only [tyName, e], h8 w a _ e⟩
    · exact h.elim
  | ty n => exact h.elim
theorem tr_int : TyRule "int" isIntP := ty_by (by decide) (by decide) (fun _ _ => by simp [subTy, isIntP]) (fun _ _ => by simp [subTy, isIntP]) (fun _ _ => by simp [subTy, isIntP]) (fun _ _ => by simp [subTy, isIntP]) (fun _ _ => by simp [subTy, isIntP]) (fun _ _ => by simp [subTy, isIntP]) (fun _ _ _ e => by simp [subTy, isIntP, e]) (fun _ _ _ e => by simp [subTy, isIntP, e]) fun _ => rfl
theorem tr_bool : TyRule "bool" isBoolP := ty_by (by decide) (by decide) (fun _ _ => by simp [subTy, isBoolP]) (fun _ _ => by simp [subTy, isBoolP]) (fun _ _ => by simp [subTy, isBoolP]) (fun _ _ => by simp [subTy, isBoolP]) (fun _ _ => by simp [subTy, isBoolP]) (fun _ _ => by simp [subTy, isBoolP]) (fun _ _ _ e => by simp [subTy, isBoolP, e]) (fun _ _ _ e => by simp [subTy, isBoolP, e]) fun _ => rfl
theorem tr_str : TyRule "str" isStrP := ty_by (by decide) (by decide) (fun _ _ => by simp [subTy, isStrP]) (fun _ _ => by simp [subTy, isStrP]) (fun _ _ => by simp [subTy, isStrP]) (fun _ _ => by simp [subTy, isStrP]) (fun _ _ => by simp [subTy, isStrP]) (fun _ _ => by simp [subTy, isStrP]) (fun _ _ _ e => by simp [subTy, isStrP, e]) (fun _ _ _ e => by simp [subTy, isStrP, e]) fun _ => rfl
theorem tr_tup : TyRule "tuple" isTupP := ty_by (by decide) (by decide) (fun _ _ => by simp [subTy, isTupP]) (fun _ _ => by simp [subTy, isTupP]) (fun _ _ => by simp [subTy, isTupP]) (fun _ _ => by simp [subTy, isTupP]) (fun _ _ => by simp [subTy, isTupP]) (fun _ _ => by simp [subTy, isTupP]) (fun _ _ _ e => by simp [subTy, isTupP, e]) (fun _ _ _ e => by simp [subTy, isTupP, e]) fun _ => rfl
theorem tr_lst : TyRule "list" isLstP := ty_by (by decide) (by decide) (fun _ _ => by simp [subTy, isLstP]) (fun _ _ => by simp [subTy, isLstP]) (fun _ _ => by simp [subTy, isLstP]) (fun _ _ => by simp [subTy, isLstP]) (fun _ _ => by simp [subTy, isLstP]) (fun _ _ => by simp [subTy, isLstP]) (fun _ _ _ e => by simp [subTy, isLstP, e]) (fun _ _ _ e => by simp [subTy, isLstP, e]) fun _ => rfl
theorem tr_dct : TyRule "dict" isDctP := ty_by (by decide) (by decide) (fun _ _ => by simp [subTy, isDctP]) (fun _ _ => by simp [subTy, isDctP]) (fun _ _ => by simp [subTy, isDctP]) (fun _ _ => by simp [subTy, isDctP]) (fun _ _ => by simp [subTy, isDctP]) (fun _ _ => by simp [subTy, isDctP]) (fun _ _ _ e => by simp [subTy, isDctP, e]) (fun _ _ _ e => by simp [subTy, isDctP, e]) fun _ => rfl
theorem ca_le {X : Cx} {f : Value} {r r' : RcD} (h : CaD X f r) (hl : ∀ ds w Q, r' ds w Q → r ds w Q) : CaD X f r' := by
  obtain ⟨r0, h1, h2⟩ := h.ex
  exact ⟨r0, h1, fun Z xs H ds w Q' Q k n q kq => h2 Z xs H ds w Q' Q k n (hl _ _ _ q) kq⟩
theorem ca_i {X : Cx} {c : String} {f : Wd → PV → Bool} (R : TyRule c f) : CaD X (.builtin "isinstance") (cI c f) := ca_le ca_isi fun ds w Q h => by
  unfold cI at h
  split at h
  · obtain ⟨rfl, h1, h2⟩ := h
    obtain ⟨t, e1, e2⟩ := R.2 w _ h1
    exact ⟨t, e1, R.1, by rw [e2]; exact h2⟩
  · exact h.elim
theorem ca_i2 {X : Cx} {c1 c2 : String} {f1 f2 : Wd → PV → Bool} (R1 : TyRule c1 f1) (R2 : TyRule c2 f2) : CaD X (.builtin "isinstance") (cI2 c1 c2 f1 f2) := ca_le ca_isi fun ds w Q h => by
  unfold cI2 at h
  split at h
  · obtain ⟨⟨rfl, rfl⟩, h1, h2⟩ := h
    obtain ⟨t, e1, e2⟩ := R1.2 w _ h1
    obtain ⟨t', e3, e4⟩ := R2.2 w _ h1
    rw [e1] at e3; cases e3
    refine ⟨t, _, e1, rfl, by simp [R1.1, R2.1], ?_⟩
    simp only [List.any_cons, List.any_nil, Bool.or_false, e2, e4]
    exact h2
  · exact h.elim
/-- a loop, by what holds of the items to come -/
theorem for_ind {g : WG} {tb : WS} {E : WEnds} (I : List PV → Sl → Wd → Prop) (h0 : ∀ ρ w, I [] ρ w → E.nx ρ w)
    (hs : ∀ d r ρ w (N : Sl → Wd → Prop), (∀ ρ w, I r ρ w → N ρ w) → I (d :: r) ρ w → g d ρ w fun ρ1 w1 => tb { nx := N, rt := E.rt, bk := E.nx, ct := N } ρ1 w1) : ∀ ds ρ w, I ds ρ w → forD g tb E ds ρ w
  | [], ρ, w, h => h0 ρ w h
  | d :: r, ρ, w, h => hs d r ρ w _ (for_ind I h0 hs r) h
theorem comp_ind {g : WG} {tt : WT} {te : WE} {ρ : Sl} {k : List PV → Wd → Prop} (I : List PV → List PV → Wd → Prop) (h0 : ∀ acc w, I [] acc w → k acc w)
    (hs : ∀ d r acc w (N : List PV → Wd → Prop), (∀ acc w, I r acc w → N acc w) → I (d :: r) acc w → g d ρ w fun ρ1 w1 => tt ρ1 w1 fun b w2 => if b = true then te ρ1 w2 fun y w3 => N (acc ++ [y]) w3 else N acc w2) : ∀ ds acc w, I ds acc w → compD g tt te ρ k ds acc w
  | [], acc, w, h => h0 acc w h
  | d :: r, acc, w, h => hs d r acc w _ (comp_ind I h0 hs r) h
/-- [f(x) for x in xs], nothing changes -/
theorem comp_map {i : Nat} {te : WE} {ρ : Sl} {k : List PV → Wd → Prop} {w : Wd} (f : PV → PV) : ∀ (ds acc : List PV), (∀ d ∈ ds, ∀ Q : WQ, Q (f d) w → te (ρ.set i (some d)) w Q) → k (acc ++ ds.map f) w → compD (wName i) wYes te ρ k ds acc w
  | [], acc, _, h => by simpa [compD] using h
  | d :: r, acc, he, h => by
    simp only [compD, wName, wYes, if_true]
    refine he d (List.mem_cons_self) _ ?_
    exact comp_map f r _ (fun x hx => he x (List.mem_cons_of_mem _ hx)) (by simpa using h)
/-- [f(x) for x in xs if t(x)], nothing changes -/
theorem comp_filter {i : Nat} {tt : WT} {te : WE} {ρ : Sl} {k : List PV → Wd → Prop} {w : Wd} (p : PV → Bool) (f : PV → PV) : ∀ (ds acc : List PV), (∀ d ∈ ds, ∀ Q : Bool → Wd → Prop, Q (p d) w → tt (ρ.set i (some d)) w Q) → (∀ d ∈ ds, p d = true → ∀ Q : WQ, Q (f d) w → te (ρ.set i (some d)) w Q) → k (acc ++ (ds.filter p).map f) w → compD (wName i) tt te ρ k ds acc w
  | [], acc, _, _, h => by simpa [compD] using h
  | d :: r, acc, ht, he, h => by
    simp only [compD, wName]
    refine ht d (List.mem_cons_self) _ ?_
    cases e : p d with
    | true =>
      simp only [if_true]
      refine he d (List.mem_cons_self) e _ ?_
      exact comp_filter p f r _ (fun x hx => ht x (List.mem_cons_of_mem _ hx)) (fun x hx => he x (List.mem_cons_of_mem _ hx)) (by simpa [List.filter_cons, e] using h)
    | false =>
      simp only [Bool.false_eq_true, if_false]
      exact comp_filter p f r _ (fun x hx => ht x (List.mem_cons_of_mem _ hx)) (fun x hx => he x (List.mem_cons_of_mem _ hx)) (by simpa [List.filter_cons, e] using h)
theorem blsOf_map {α : Type} (f : α → Bool) : ∀ xs : List α, blsOf (xs.map fun x => PV.bl (f x)) = some (xs.map f)
  | [] => rfl
  | x :: r => by simp [blsOf, blsOf_map f r]
theorem atI_lt {α : Type} {xs : List α} {i : Int} (h0 : 0 ≤ i) (h1 : i < xs.length) : ∃ v, atI xs i = some v ∧ v ∈ xs := by
  have hl : i.toNat < xs.length := by omega
  have e : i = ((i.toNat : Nat) : Int) := by omega
  refine ⟨xs[i.toNat], ?_, List.getElem_mem hl⟩
  have q := atI_nat (xs := xs) (j := i.toNat) (v := xs[i.toNat]) (by simp [hl])
  rw [← e] at q
  exact q
end Pd

/-! items at written places -/
namespace Pd
open PySem L2

def onAt {α : Type} : List α → Nat → (α → Prop) → Prop
  | d :: _, 0, k => k d
  | _ :: r, n + 1, k => onAt r n k
  | [], _, _ => False
theorem onAt_at {α : Type} : ∀ {xs : List α} {n : Nat} {k : α → Prop}, onAt xs n k → ∃ d, xs[n]? = some d ∧ k d
  | d :: _, 0, _, h => ⟨d, rfl, h⟩
  | _ :: r, n + 1, k, h => by
    obtain ⟨d, h1, h2⟩ := onAt_at (xs := r) (n := n) (k := k) (by simpa [onAt] using h)
    exact ⟨d, by simpa using h1, h2⟩
  | [], _, _, h => by simp [onAt] at h
theorem onAt_of {α : Type} : ∀ {xs : List α} {n : Nat} {k : α → Prop} {d : α}, xs[n]? = some d → k d → onAt xs n k
  | [], _, _, _, h, _ => by simp at h
  | x :: r, 0, k, d, h, q => by
    have e : x = d := by simpa using h
    subst e; exact q
  | x :: r, n + 1, k, d, h, q => onAt_of (xs := r) (by simpa using h) q
def rIxC (n : Nat) (x : PV) (w1 : Wd) (Q : WQ) : Prop := match vw w1 x with
  | .lst ds => onAt ds n fun d => Q d w1
  | .tup ds => onAt ds n fun d => Q d w1
  | .scr ds => onAt ds n fun d => Q d w1
  | .str z => z.length ≤ sizeLine ∧ onAt z.cps.toList n fun c => Q (.str ⟨#[c]⟩) w1
  | _ => False
def wIxC (n : Nat) (ta : WE) : WE := fun ρ w Q => ta ρ w fun x w1 => rIxC n x w1 Q
section
variable {X : Cx} {a o e : Expr} {ta to te : WE} {pos cpos : Pos} {j : Nat}
theorem atI_on {K : Kz} {w : Wd} {H : Hp} {vs : List V} {ds : List PV} {n : Nat} {k : PV → Prop} (dn : DnAll K w H vs ds) (h : onAt ds n k) : ∃ v d, atI vs (n : Int) = some v ∧ Dn K w H v d ∧ k d := by
  obtain ⟨d, h1, h2⟩ := onAt_at h
  obtain ⟨v, h3, h4⟩ := dn.get h1
  exact ⟨v, d, atI_nat h3, h4, h2⟩
theorem de_ixc (n : Nat) {i : Int} (ha : DE X a ta) (hi : i = (n : Int) := by rfl) : DE X (.Subscript a (.Constant (.int i) j cpos) pos) (wIxC n ta) := by
  refine pe_le (pe_ix ix_seq ha (pe_int (X := X)) (fun _ _ => rfl)) fun σ H Q ⟨Z, ρ, w, Q', r, h, k⟩ => up1 r h fun x H1 d w1 e1 r1 n1 h1 => ?_
  show rIx X.K x (.int i) H1 Q
  subst hi
  unfold rIxC at h1
  split at h1
  · rename_i e
    obtain ⟨p, ys, rfl, hh, hn⟩ := vwL r1.wk n1 e
    obtain ⟨v, d, q1, q2, q3⟩ := atI_on hn h1
    exact .inl ⟨p, ys, _, v, rfl, rfl, SqL.of hh, q1, k _ _ (post_trans e1 (post_same r1.wk q2 q3))⟩
  · rename_i e
    obtain ⟨p, ys, rfl, hh, hn⟩ := vwT n1 e
    obtain ⟨v, d, q1, q2, q3⟩ := atI_on hn h1
    exact .inr (.inl ⟨p, ys, _, v, rfl, rfl, hh.sq, q1, k _ _ (post_trans e1 (post_same r1.wk q2 q3))⟩)
  · rename_i e
    obtain ⟨p, ys, rfl, hh, hn⟩ := vwZ n1 e
    obtain ⟨v, d, q1, q2, q3⟩ := atI_on hn h1
    exact .inl ⟨p, ys, _, v, rfl, rfl, hh.sq, q1, k _ _ (post_trans e1 (post_same r1.wk q2 q3))⟩
  · rename_i e
    cases vwS n1 e
    obtain ⟨c, q1, q2⟩ := onAt_at h1.2
    exact .inr (.inr ⟨_, _, c, rfl, rfl, h1.1, atI_nat q1, k _ _ (post_trans e1 (post_same r1.wk (.str _) q2))⟩)
  · exact h1.elim
/-- xs[n] = v at a written place -/
def rSubC (n : Nat) (d o : PV) (w1 : Wd) (Q : Wd → Prop) : Prop := match o with
  | .ref a => match w1 a with
    | some (.lst ds) => n < ds.length ∧ Q (wset w1 a (.lst (ds.set n d)))
    | _ => False
  | _ => False
def wgSubC (n : Nat) (to : WE) : WG := fun d ρ w Q => to ρ w fun o w1 => rSubC n d o w1 fun w2 => Q ρ w2
theorem dg_subc (n : Nat) {i : Int} (ho : DE X o to) (hi : i = (n : Int) := by rfl)
    (ha : ∀ v, assign (.Subscript o (.Constant (.int i) j cpos) pos) X.env v = (do
      let ov ← holding [v] (eval o X.env)
      let iv ← holding [v, ov] (eval (.Constant (.int i) j cpos) X.env)
      standAt pos
      holding [v, ov, iv] (setItem ov iv v)
      release [v, ov, iv] []) := by intro _; rfl) : DG X (.Subscript o (.Constant (.int i) j cpos) pos) (wgSubC n to) :=
  pg_le (pg_sub ho (pe_int (X := X)) set_list ha) fun v σ H Q ⟨Z, ρ, w, d, Q', r, dn, h, k⟩ => up1 r h fun ov H1 od w1 e1 r1 n1 h1 => by
    show rSetL ov (.int i) v H1 fun H3 => Q σ H3
    subst hi
    unfold rSubC at h1
    split at h1
    · split at h1
      · rename_i ds e
        cases n1
        cases r1.wk.at_ _ _ e with
        | @lst xs _ h3 h4 =>
          have ep : Ext w1 H1 (wset w1 _ (.lst (ds.set n d))) (upd H1 _ (.lst (xs.set n v))) := Ext.put e
          have hl := h1.1
          have hj : ixN xs.length ((n : Nat) : Int) = some n := by
            unfold ixN
            rw [h4.length, if_pos (by omega), if_pos (by omega)]
            simp
          refine ⟨_, _, _, n, rfl, rfl, h3, hj, k _ _ _ _ (e1.trans ep) (r1.ext ep ?_) h1.2⟩
          exact r1.wk.put e (.lst upd_same ((DnAll.set (dn.ext e1) n h4).ext ep))
      · exact h1.elim
    · exact h1.elim
end
end Pd

/-! a dict of constants that is asked at once; the module's own tuples -/
namespace Pd
open PySem L2
def aV : PV → V
  | .int i => .int i
  | .str x => .str x
  | .bl b => .bl b
  | _ => .non
def isAtm : PV → Bool
  | .int _ => true
  | .str _ => true
  | .bl _ => true
  | .non => true
  | _ => false
theorem aV_dn {K : Kz} {w : Wd} {H : Hp} : ∀ d : PV, isAtm d = true → Dn K w H (aV d) d
  | .int i, _ => .int i
  | .str x, _ => .str x
  | .bl b, _ => .bl b
  | .non, _ => .non
theorem aV_rel : ∀ d : PV, isAtm d = true → ∀ u, RelV (aV d) u → RelV (aV d) u := fun _ _ _ h => h
def valP (kvs : List (Key × PV)) (k : Key) : Option PV := (kvs.find? fun kv => decide (kv.1 = k)).map (·.2)
def onKey (y : PV) (N : Key → Prop) : Prop := match y with
  | .int i => N (.inl i)
  | .str x => N (.inr x)
  | _ => False
theorem onKey_at {K : Kz} {w : Wd} {H : Hp} {v : V} {y : PV} {N : Key → Prop} (n : Dn K w H v y) (h : onKey y N) : ∃ k, v = kV k ∧ N k := by
  cases n with
  | int i => exact ⟨.inl i, rfl, h⟩
  | str x => exact ⟨.inr x, rfl, h⟩
  | _ => exact h.elim
inductive DisC (X : Cx) : List (Option Expr) → List Expr → List (Key × PV) → Prop
  | nil : DisC X [] [] []
  | cons {k v : Expr} {kk : Key} {d : PV} {ks : List (Option Expr)} {vs : List Expr} {kvs : List (Key × PV)} : PE X k (tC (kV kk)) → PE X v (tC (aV d)) → isAtm d = true → DisC X ks vs kvs → DisC X (some k :: ks) (v :: vs) ((kk, d) :: kvs)
def kvV (kvs : List (Key × PV)) : List (Key × V) := kvs.map fun kv => (kv.1, aV kv.2)
theorem DisC.pps {X : Cx} {pos : Pos} {ks : List (Option Expr)} {vs : List Expr} {kvs : List (Key × PV)} (h : DisC X ks vs kvs) : PPs X pos ks vs (kvs.map fun kv => (tC (kV kv.1), tC (aV kv.2))) := by
  induction h with
  | nil => exact pps_nil
  | cons h1 h2 _ _ ih => exact pps_cons h1 h2 ih
theorem DisC.atm {X : Cx} {ks : List (Option Expr)} {vs : List Expr} {kvs : List (Key × PV)} (h : DisC X ks vs kvs) : ∀ kv ∈ kvs, isAtm kv.2 = true := by
  induction h with
  | nil => intro kv h; cases h
  | cons _ _ h3 _ ih =>
    intro kv h
    rcases List.mem_cons.mp h with e | h
    · subst e; exact h3
    · exact ih kv h
theorem DisC.len {X : Cx} {ks : List (Option Expr)} {vs : List Expr} {kvs : List (Key × PV)} (h : DisC X ks vs kvs) : ks.length = vs.length ∧ ks.length = kvs.length ∧ ks.all (·.isSome) = true := by
  induction h with
  | nil => exact ⟨rfl, rfl, rfl⟩
  | cons _ _ _ _ ih => exact ⟨by simp [ih.1], by simp [ih.2.1], by simpa using ih.2.2⟩
theorem tPairs_c : ∀ (kvs : List (Key × PV)) {σ : St} {H : Hp} {Q : List (V × V) → Hp → Prop}, Q ((kvV kvs).map fun kv => (kV kv.1, kv.2)) H → tPairs (kvs.map fun kv => (tC (kV kv.1), tC (aV kv.2))) σ H Q
  | [], _, _, _, h => h
  | kv :: r, _, _, Q, h => by
    show tPairs _ _ _ _
    exact tPairs_c r h
theorem valV_kvV (kvs : List (Key × PV)) (k : Key) : valV (kvV kvs) k = (valP kvs k).map aV := by
  unfold valV valP kvV
  rw [List.find?_map]
  simp only [Option.map_map]
  rfl
theorem valP_atm {kvs : List (Key × PV)} {k : Key} {d : PV} (h : ∀ kv ∈ kvs, isAtm kv.2 = true) (e : valP kvs k = some d) : isAtm d = true := by
  unfold valP at e
  obtain ⟨p, h1, h2⟩ := Option.map_eq_some_iff.mp e
  subst h2
  exact h p (List.mem_of_find?_eq_some h1)
def rGetC (kvs : List (Key × PV)) (y z : PV) (w : Wd) (Q : WQ) : Prop := onKey y fun k => Q ((valP kvs k).getD z) w
def wGetC (kvs : List (Key × PV)) (te tf : WE) : WE := fun ρ w Q => te ρ w fun y w1 => tf ρ w1 fun z w2 => rGetC kvs y z w2 Q
def rIxD (kvs : List (Key × PV)) (y : PV) (w : Wd) (Q : WQ) : Prop := onKey y fun k => ∃ d, valP kvs k = some d ∧ Q d w
def wIxD (kvs : List (Key × PV)) (te : WE) : WE := fun ρ w Q => te ρ w fun y w1 => rIxD kvs y w1 Q
section
variable {X : Cx} {e f : Expr} {te tf : WE} {pos apos cpos : Pos} {keys : List (Option Expr)} {values : List Expr} {kvs : List (Key × PV)}
theorem de_getC (hu : X.A.units + 64 < cLine) (hd : DisC X keys values kvs) (he : DE X e te) (hf : DE X f tf) (h0 : keys ≠ [] := by exact fun z => nomatch z) (h15 : keys.length ≤ 15 := by decide) (hm : mergeK [] (kvV kvs) = kvV kvs := by rfl)
    (hbase : attributeBase (.Dict keys values pos) "get" X.env (eval (.Dict keys values pos) X.env) = eval (.Dict keys values pos) X.env := by rfl)
    (hfew : ((backTo cpos (starEach [e, f] X.env)).all (fun x => !x.1) && (backToKw cpos (keywordEach [] X.env)).all (fun x => x.1.isSome) && decide (([e, f] : List Expr).length + ([] : List Keyword).length + (if ([] : List Keyword).isEmpty then 0 else 1) < 30)) = true := by rfl)
    (hline : (apos.endLine == cpos.line) = true := by rfl) (htr : backTo cpos (starEach [e, f] X.env) = [(false, eval e X.env), (false, eval f X.env)] := by rfl) :
    DE X (.Call (.Attribute (.Dict keys values pos) "get" apos) [e, f] [] cpos) (wGetC kvs te tf) := by
  refine pe_le (pe_dget2 (by omega) (pe_disp hd.pps hd.len.2.2 hd.len.1 h0 h15) he hf ⟨hbase, hfew, hline, htr⟩) fun σ H Q ⟨Z, ρ, w, Q', r, h, k⟩ => ?_
  intro p hp
  refine tPairs_c kvs ⟨upd_same, kvV kvs, rfl, by rw [show (kvV kvs).length = kvs.length from List.length_map _, ← hd.len.2.1]; exact h15, ?_⟩
  rw [upd_upd, hm]
  refine ⟨p, rfl, .inl ⟨_, .inl upd_same⟩, ?_⟩
  have r0 := r.ext (Ext.new r.wk hp) (r.wk.new (o := .dK (kvV kvs)) hp)
  refine up1 r0 h fun y H2 dy w1 e1 r1 n1 h1 => up1 r1 h1 fun z H3 dz w2 e2 r2 n2 h2 => ?_
  obtain ⟨kk, rfl, q⟩ := onKey_at (n1.ext e2) h2
  have hH3 : H3 p = some (.dK (kvV kvs)) := ((e1.trans e2) p _ (r.wk.off hp) upd_same).2
  refine ⟨_, DGet.k hH3, k _ _ (post_trans ((Ext.new r.wk hp).trans (e1.trans e2)) (post_same r2.wk ?_ q))⟩
  rw [valV_kvV]
  cases ev : valP kvs kk with
  | none => exact n2
  | some d => exact aV_dn d (valP_atm hd.atm ev)
theorem de_ixD (hu : X.A.units + 64 < cLine) (hd : DisC X keys values kvs) (he : DE X e te) (hs : NoSl e) (h0 : keys ≠ [] := by exact fun z => nomatch z) (h15 : keys.length ≤ 15 := by decide) (hm : mergeK [] (kvV kvs) = kvV kvs := by rfl) :
    DE X (.Subscript (.Dict keys values pos) e cpos) (wIxD kvs te) := by
  refine pe_le (pe_dget (by omega) (pe_disp hd.pps hd.len.2.2 hd.len.1 h0 h15) he hs) fun σ H Q ⟨Z, ρ, w, Q', r, h, k⟩ => ?_
  intro p hp
  refine tPairs_c kvs ⟨upd_same, kvV kvs, rfl, by rw [show (kvV kvs).length = kvs.length from List.length_map _, ← hd.len.2.1]; exact h15, ?_⟩
  rw [upd_upd, hm]
  have r0 := r.ext (Ext.new r.wk hp) (r.wk.new (o := .dK (kvV kvs)) hp)
  refine up1 r0 h fun y H2 dy w1 e1 r1 n1 h1 => ?_
  obtain ⟨kk, rfl, d, hd', q⟩ := onKey_at n1 h1
  have hH3 : H2 p = some (.dK (kvV kvs)) := (e1 p _ (r.wk.off hp) upd_same).2
  refine ⟨p, aV d, rfl, ?_, k _ _ (post_trans ((Ext.new r.wk hp).trans e1) (post_same r1.wk (aV_dn d (valP_atm hd.atm hd')) q))⟩
  have := DGet.k (k := kk) hH3
  rwa [valV_kvV, hd'] at this
end
/-- a tuple of the module -/
theorem gt_mk {K : Frag} {h : Heap} {mg : Str → Option Value} {x : Str} {a : Addr} {od : Option Addr} {its : Array Value} {n : Nat} {sl : Array (Option Value)} {ds : List PV} (X : K.In h) (G : h.Ns mainGlobals mg)
    (g : PySem.W.nsIn K mainGlobals x = some (some (.ref a))) (l : K.lookup a = some ⟨.type "tuple", od, .seq its n, sl⟩) (hz : its.size ≤ sizeLine) (hv : Vals (ds.map aV) its.toList) (ha : ∀ d ∈ ds, isAtm d = true) : GT K mg x ds := by
  refine ⟨a, _, PySem.W.mg_of X G g, ⟨_, its, n, l, rfl, rfl, hz, hv⟩, fun Z w H => ?_⟩
  induction ds generalizing its with
  | nil => exact .nil
  | cons d r ih =>
    have aux : ∀ ds : List PV, (∀ d ∈ ds, isAtm d = true) → DnAll ⟨K, Z⟩ w H (ds.map aV) ds := by
      intro ds
      induction ds with
      | nil => intro _; exact .nil
      | cons d r ih => intro h; exact .cons (aV_dn d (h d (List.mem_cons_self ..))) (ih fun d h' => h d (List.mem_cons_of_mem _ h'))
    exact aux _ ha
section
variable {ρ : Sl} {w : Wd} {Q : WQ} {te tf : WE} {kvs : List (Key × PV)} {z : PV} {s : Str} {i : Int}
theorem x_getC (h : te ρ w fun y w1 => tf ρ w1 fun z w2 => rGetC kvs y z w2 Q) : wGetC kvs te tf ρ w Q := h
theorem x_rgetS (h : Q ((valP kvs (.inr s)).getD z) w) : rGetC kvs (.str s) z w Q := h
theorem x_rgetI (h : Q ((valP kvs (.inl i)).getD z) w) : rGetC kvs (.int i) z w Q := h
theorem x_ixD (h : te ρ w fun y w1 => rIxD kvs y w1 Q) : wIxD kvs te ρ w Q := h
end
end Pd

/-! a chain of three comparisons; a, b = x, y -/
namespace L2
open PySem PySem.Spec PyProof.Rows
def tChain3 (r r' r'' : R2) (ta tb tc td : TE) : TE := fun σ H Q => ta σ H fun x H1 => tb σ H1 fun y H2 => r x y H2 fun z H3 => ∃ k, z = .bl k ∧
  (if k = true then tc σ H3 fun u H4 => r' y u H4 fun z' H5 => ∃ k', z' = .bl k' ∧ (if k' = true then td σ H5 fun v H6 => r'' u v H6 Q else Q (.bl false) H5) else Q (.bl false) H3)
theorem pe_chain3 {X : Cx} {a b c d : Expr} {ta tb tc td : TE} {pos : Pos} {op op' op'' : CmpOp} {r r' r'' : R2} (ho : OpR X (compareOp op) r) (ho' : OpR X (compareOp op') r') (ho'' : OpR X (compareOp op'') r'') (ha : PE X a ta) (hb : PE X b tb) (hc : PE X c tc) (hd : PE X d td)
    (hm : lastMarks [op, op', op''] [b, c, d] = false := by with_unfolding_all rfl) : PE X (.Compare a [op, op', op''] [b, c, d] pos) (tChain3 r r' r'' ta tb tc td) := by
  refine ⟨fun pins s σ H Q I h => ?_⟩
  refine Compare_chain (thn (ha.run pins s σ H _ I h) fun v s1 ⟨x, H1, I1, r1, q1⟩ => chain_link (thn (hb.run pins s1 σ H1 _ I1 q1) fun u s2 ⟨y, H2, I2, r2, q2⟩ =>
    thn (ho pins s2 σ H2 x y v u _ I2 r1 r2 q2) fun d s3 ⟨z, H3, I3, r3, k, e, q3⟩ => ?_)) hm
  subst e
  cases r3
  refine wpAny_truthy_bool ?_
  cases k with
  | false => exact ite_ff ⟨.bl false, H3, I3, rfl, q3⟩
  | true =>
    refine ite_tt (chain_link (thn (hc.run pins s3 σ H3 _ I3 q3) fun w' s4 ⟨z', H4, I4, r4, q4⟩ => thn (ho' pins s4 σ H4 y z' u w' _ I4 r2 r4 q4) fun d' s5 ⟨z5, H5, I5, r5, k5, e5, q5⟩ => ?_))
    subst e5
    cases r5
    refine wpAny_truthy_bool ?_
    cases k5 with
    | false => exact ite_ff ⟨.bl false, H5, I5, rfl, q5⟩
    | true => exact ite_tt (chain_last (thn (hd.run pins s5 σ H5 _ I5 q5) fun w6 s6 ⟨z6, H6, I6, r6, q6⟩ => ho'' pins s6 σ H6 z' z6 w' w6 Q I6 r4 r6 q6))
end L2
namespace Pd
open PySem L2
def wChain3 (r r' r'' : R2D) (ta tb tc td : WE) : WE := fun ρ w Q => ta ρ w fun x w1 => tb ρ w1 fun y w2 => r x y w2 fun z w3 => onB z fun k => if k = true then
  (tc ρ w3 fun u w4 => r' y u w4 fun z' w5 => onB z' fun k' => if k' = true then td ρ w5 fun v w6 => r'' u v w6 Q else Q (.bl false) w5) else Q (.bl false) w3
section
variable {X : Cx} {a b c d : Expr} {ta tb tc td : WE} {pos : Pos}
theorem de_chain3 {op op' op'' : CmpOp} {rD rD' rD'' : R2D} (c1 : CmD X op rD) (c2 : CmD X op' rD') (c3 : CmD X op'' rD'') (ha : DE X a ta) (hb : DE X b tb) (hc : DE X c tc) (hd : DE X d td)
    (hm : lastMarks [op, op', op''] [b, c, d] = false := by with_unfolding_all rfl) : DE X (.Compare a [op, op', op''] [b, c, d] pos) (wChain3 rD rD' rD'' ta tb tc td) := by
  obtain ⟨r, ho, hl⟩ := c1.ex
  obtain ⟨r', ho', hl'⟩ := c2.ex
  obtain ⟨r'', ho'', hl''⟩ := c3.ex
  refine pe_le (pe_chain3 ho ho' ho'' ha hb hc hd hm) fun σ H Q ⟨Z, ρ, w, Q', r0, h, k⟩ => ?_
  refine up1 r0 h fun x H1 dx w1 e1 r1 n1 h1 => ?_
  refine up1 r1 h1 fun y H2 dy w2 e2 r2 n2 h2 => ?_
  refine hl Z x y H2 dx dy w2 _ _ r2.wk (n1.ext e2) n2 h2 fun z H3 ⟨dz, w3, e3, k3, n3, h3⟩ => ?_
  have r3 := r2.ext e3 k3
  obtain ⟨kb, rfl, rfl, h3⟩ := onB_of n3 h3
  refine ⟨kb, rfl, ?_⟩
  cases kb with
  | true =>
    refine iteT (up1 r3 h3 fun u H4 du w4 e4 r4 n4 h4 => ?_)
    refine hl' Z y u H4 dy du w4 _ _ r4.wk ((n2.ext e3).ext e4) n4 h4 fun z' H5 ⟨dz', w5, e5, k5, n5, h5⟩ => ?_
    have r5 := r4.ext e5 k5
    obtain ⟨kb', rfl, rfl, h5⟩ := onB_of n5 h5
    refine ⟨kb', rfl, ?_⟩
    cases kb' with
    | true =>
      refine iteT (up1 r5 h5 fun v H6 dv w6 e6 r6 n6 h6 => ?_)
      exact hl'' Z u v H6 du dv w6 _ _ r6.wk ((n4.ext e5).ext e6) n6 h6 fun v' H7 p => k v' H7 (post_trans (e1.trans (e2.trans (e3.trans (e4.trans (e5.trans e6))))) p)
    | false => exact iteF (k _ _ (post_trans (e1.trans (e2.trans (e3.trans (e4.trans e5)))) (post_same r5.wk (.bl false) h5)))
  | false => exact iteF (k _ _ (post_trans (e1.trans (e2.trans e3)) (post_same r3.wk (.bl false) h3)))
def wPar (i j : Nat) (t : WA) : WS := fun D ρ w => t ρ w fun ds w1 => match ds with
  | [x, y] => D.nx ((ρ.set i (some x)).set j (some y)) w1
  | _ => False
def wPar3 (i j l : Nat) (t : WA) : WS := fun D ρ w => t ρ w fun ds w1 => match ds with
  | [x, y, z] => D.nx (((ρ.set i (some x)).set j (some y)).set l (some z)) w1
  | _ => False
theorem ds_par {i j : Nat} {x y : Str} {t : WA} {px py pt : Pos} {kt k2 pt2} (hc : X.calm = true) (hN : X.N.Nodup) (hi : X.N[i]? = some x) (hj : X.N[j]? = some y) (hij : i ≠ j)
    (hx : X.env.scope.names.lookup x = some .local) (hy : X.env.scope.names.lookup y = some .local) (ha : DA X [a, b] t)
    (hw : swappedStores [.Tuple [.Name x px, .Name y py] kt pt] (.Tuple [a, b] k2 pt2) X.env = pure (some [x, y]) := by rfl)
    (hs : swapsWithSole [.Tuple [.Name x px, .Name y py] kt pt] (.Tuple [a, b] k2 pt2) pos.line X.env = pure false := by rfl) :
    DS X (.Assign [.Tuple [.Name x px, .Name y py] kt pt] (.Tuple [a, b] k2 pt2) pos) (wPar i j t) :=
  ps_le (ps_par hc hN hi hj hij hx hy ha hw hs) fun D σ H ⟨Z, ρ, w, E, r, h, k⟩ => upA1 r h fun vs H1 ds w1 e1 r1 n h1 => by
    match ds, n, h1 with
    | [d1, d2], .cons n1 (.cons n2 .nil), h1 => exact ⟨_, _, rfl, k.nx _ _ _ _ e1 ((r1.set n1 i).set n2 j) h1⟩
theorem ds_par3 {i j l : Nat} {x y z : Str} {t : WA} {px py pz pt : Pos} {kt k2 pt2} (hc : X.calm = true) (hN : X.N.Nodup) (hi : X.N[i]? = some x) (hj : X.N[j]? = some y) (hl : X.N[l]? = some z) (hij : i ≠ j) (hil : i ≠ l) (hjl : j ≠ l)
    (hx : X.env.scope.names.lookup x = some .local) (hy : X.env.scope.names.lookup y = some .local) (hz : X.env.scope.names.lookup z = some .local) (ha : DA X [a, b, c] t)
    (hw : swappedStores [.Tuple [.Name x px, .Name y py, .Name z pz] kt pt] (.Tuple [a, b, c] k2 pt2) X.env = pure (some [x, y, z]) := by rfl)
    (hs : swapsWithSole [.Tuple [.Name x px, .Name y py, .Name z pz] kt pt] (.Tuple [a, b, c] k2 pt2) pos.line X.env = pure false := by rfl) :
    DS X (.Assign [.Tuple [.Name x px, .Name y py, .Name z pz] kt pt] (.Tuple [a, b, c] k2 pt2) pos) (wPar3 i j l t) :=
  ps_le (ps_par3 hc hN hi hj hl hij hil hjl hx hy hz ha hw hs) fun D σ H ⟨Z, ρ, w, E, r, h, k⟩ => upA1 r h fun vs H1 ds w1 e1 r1 n h1 => by
    match ds, n, h1 with
    | [d1, d2, d3], .cons n1 (.cons n2 (.cons n3 .nil)), h1 => exact ⟨_, _, _, rfl, k.nx _ _ _ _ e1 (((r1.set n1 i).set n2 j).set n3 l) h1⟩
end
section
variable {ρ : Sl} {w : Wd} {Q : WQ} {D : WEnds} {ta tb tc td : WE} {TA : WA} {r r' r'' : R2D} {x y z : PV} {i j l : Nat}
theorem x_chain3 (h : ta ρ w fun x w1 => tb ρ w1 fun y w2 => r x y w2 fun z w3 => onB z fun k => if k = true then
  (tc ρ w3 fun u w4 => r' y u w4 fun z' w5 => onB z' fun k' => if k' = true then td ρ w5 fun v w6 => r'' u v w6 Q else Q (.bl false) w5) else Q (.bl false) w3) : wChain3 r r' r'' ta tb tc td ρ w Q := h
def onPar (i j : Nat) (D : WEnds) (ρ : Sl) (ds : List PV) (w1 : Wd) : Prop := match ds with
  | [x, y] => D.nx ((ρ.set i (some x)).set j (some y)) w1
  | _ => False
def onPar3 (i j l : Nat) (D : WEnds) (ρ : Sl) (ds : List PV) (w1 : Wd) : Prop := match ds with
  | [x, y, z] => D.nx (((ρ.set i (some x)).set j (some y)).set l (some z)) w1
  | _ => False
theorem x_par (h : TA ρ w fun ds w1 => onPar i j D ρ ds w1) : wPar i j TA D ρ w := h
theorem x_par3 (h : TA ρ w fun ds w1 => onPar3 i j l D ρ ds w1) : wPar3 i j l TA D ρ w := h
theorem x_onPar (h : D.nx ((ρ.set i (some x)).set j (some y)) w) : onPar i j D ρ [x, y] w := h
theorem x_onPar3 (h : D.nx (((ρ.set i (some x)).set j (some y)).set l (some z)) w) : onPar3 i j l D ρ [x, y, z] w := h
end
end Pd

/-! going through a reading, step by step -/
namespace Pd
open PySem L2
section
variable {ρ : Sl} {w : Wd} {Q : WQ} {D : WEnds} {t u : WS} {te ta tb tc : WE} {tA tB : WT} {TA : WA} {g : WG} {r r' : R2D} {p : PSp} {rc : RcD} {d x y : PV} {ds es xs : List PV} {i j : Int} {n k : Nat} {a : Addr} {s z : Str} {b : Bool} {wi : WI} {tl th : WO} {vs : List Nat} {A B : Prop}
theorem x_seq (h : t { nx := u D, rt := D.rt, bk := D.bk, ct := D.ct } ρ w) : wSeq2 t u D ρ w := h
theorem x_next (h : D.nx ρ w) : wNext D ρ w := h
theorem x_break (h : D.bk ρ w) : wBreak D ρ w := h
theorem x_cont (h : D.ct ρ w) : wCont D ρ w := h
theorem x_asg (h : te ρ w fun x w1 => g x ρ w1 D.nx) : wAsg te g D ρ w := h
theorem x_drop (h : te ρ w fun _ w1 => D.nx ρ w1) : wDrop te D ρ w := h
theorem x_ret (h : te ρ w D.rt) : wRet te D ρ w := h
theorem x_retN (h : D.rt .non w) : wRetN D ρ w := h
theorem x_if (h : tA ρ w fun b w1 => if b = true then t D ρ w1 else u D ρ w1) : wIf tA t u D ρ w := h
theorem x_for {wb : WS} (h : wi ρ w fun ds w1 => forD g wb D ds ρ w1) : wFor wi g wb D ρ w := h
theorem x_name {N : Sl → Wd → Prop} (h : N (ρ.set n (some d)) w) : wName n d ρ w N := h
theorem x_gtup {N : Sl → Wd → Prop} {gs : WGs} (hl : ds.length = n) (h : gs ds ρ w N) : wgTup n gs (.tup ds) ρ w N := ⟨hl, h⟩
theorem x_gcons {N : Sl → Wd → Prop} {gs : WGs} (h : g d ρ w fun ρ' w' => gs ds ρ' w' N) : wgCons g gs (d :: ds) ρ w N := h
theorem x_gnil {N : Sl → Wd → Prop} (h : N ρ w) : wgNil [] ρ w N := h
theorem x_gsubc {N : Sl → Wd → Prop} (h : te ρ w fun o w1 => rSubC n d o w1 fun w2 => N ρ w2) : wgSubC n te d ρ w N := h
theorem x_rsubc {N : Wd → Prop} (hw : w a = some (.lst ds)) (hl : n < ds.length) (h : N (wset w a (.lst (ds.set n d)))) : rSubC n d (.ref a) w N := by
  unfold rSubC; simp only [hw]; exact ⟨hl, h⟩
theorem x_var (e : ρ[n]? = some (some d)) (h : Q d w) : wVar n ρ w Q := by
  unfold wVar getS; simp only [e]; exact h
theorem x_v0 {r : Sl} (h : Q d w) : wVar 0 (some d :: r) w Q := h
theorem x_v1 {o0 : Option PV} {r : Sl} (h : Q d w) : wVar 1 (o0 :: some d :: r) w Q := h
theorem x_v2 {o0 o1 : Option PV} {r : Sl} (h : Q d w) : wVar 2 (o0 :: o1 :: some d :: r) w Q := h
theorem x_v3 {o0 o1 o2 : Option PV} {r : Sl} (h : Q d w) : wVar 3 (o0 :: o1 :: o2 :: some d :: r) w Q := h
theorem x_v4 {o0 o1 o2 o3 : Option PV} {r : Sl} (h : Q d w) : wVar 4 (o0 :: o1 :: o2 :: o3 :: some d :: r) w Q := h
theorem x_v5 {o0 o1 o2 o3 o4 : Option PV} {r : Sl} (h : Q d w) : wVar 5 (o0 :: o1 :: o2 :: o3 :: o4 :: some d :: r) w Q := h
theorem x_v6 {o0 o1 o2 o3 o4 o5 : Option PV} {r : Sl} (h : Q d w) : wVar 6 (o0 :: o1 :: o2 :: o3 :: o4 :: o5 :: some d :: r) w Q := h
theorem x_v7 {o0 o1 o2 o3 o4 o5 o6 : Option PV} {r : Sl} (h : Q d w) : wVar 7 (o0 :: o1 :: o2 :: o3 :: o4 :: o5 :: o6 :: some d :: r) w Q := h
theorem x_v8 {o0 o1 o2 o3 o4 o5 o6 o7 : Option PV} {r : Sl} (h : Q d w) : wVar 8 (o0 :: o1 :: o2 :: o3 :: o4 :: o5 :: o6 :: o7 :: some d :: r) w Q := h
theorem x_v9 {o0 o1 o2 o3 o4 o5 o6 o7 o8 : Option PV} {r : Sl} (h : Q d w) : wVar 9 (o0 :: o1 :: o2 :: o3 :: o4 :: o5 :: o6 :: o7 :: o8 :: some d :: r) w Q := h
theorem x_v10 {o0 o1 o2 o3 o4 o5 o6 o7 o8 o9 : Option PV} {r : Sl} (h : Q d w) : wVar 10 (o0 :: o1 :: o2 :: o3 :: o4 :: o5 :: o6 :: o7 :: o8 :: o9 :: some d :: r) w Q := h
theorem x_v11 {o0 o1 o2 o3 o4 o5 o6 o7 o8 o9 o10 : Option PV} {r : Sl} (h : Q d w) : wVar 11 (o0 :: o1 :: o2 :: o3 :: o4 :: o5 :: o6 :: o7 :: o8 :: o9 :: o10 :: some d :: r) w Q := h
theorem x_v12 {o0 o1 o2 o3 o4 o5 o6 o7 o8 o9 o10 o11 : Option PV} {r : Sl} (h : Q d w) : wVar 12 (o0 :: o1 :: o2 :: o3 :: o4 :: o5 :: o6 :: o7 :: o8 :: o9 :: o10 :: o11 :: some d :: r) w Q := h
theorem x_v13 {o0 o1 o2 o3 o4 o5 o6 o7 o8 o9 o10 o11 o12 : Option PV} {r : Sl} (h : Q d w) : wVar 13 (o0 :: o1 :: o2 :: o3 :: o4 :: o5 :: o6 :: o7 :: o8 :: o9 :: o10 :: o11 :: o12 :: some d :: r) w Q := h
theorem x_v14 {o0 o1 o2 o3 o4 o5 o6 o7 o8 o9 o10 o11 o12 o13 : Option PV} {r : Sl} (h : Q d w) : wVar 14 (o0 :: o1 :: o2 :: o3 :: o4 :: o5 :: o6 :: o7 :: o8 :: o9 :: o10 :: o11 :: o12 :: o13 :: some d :: r) w Q := h
theorem x_v15 {o0 o1 o2 o3 o4 o5 o6 o7 o8 o9 o10 o11 o12 o13 o14 : Option PV} {r : Sl} (h : Q d w) : wVar 15 (o0 :: o1 :: o2 :: o3 :: o4 :: o5 :: o6 :: o7 :: o8 :: o9 :: o10 :: o11 :: o12 :: o13 :: o14 :: some d :: r) w Q := h
theorem x_v16 {o0 o1 o2 o3 o4 o5 o6 o7 o8 o9 o10 o11 o12 o13 o14 o15 : Option PV} {r : Sl} (h : Q d w) : wVar 16 (o0 :: o1 :: o2 :: o3 :: o4 :: o5 :: o6 :: o7 :: o8 :: o9 :: o10 :: o11 :: o12 :: o13 :: o14 :: o15 :: some d :: r) w Q := h
theorem x_v17 {o0 o1 o2 o3 o4 o5 o6 o7 o8 o9 o10 o11 o12 o13 o14 o15 o16 : Option PV} {r : Sl} (h : Q d w) : wVar 17 (o0 :: o1 :: o2 :: o3 :: o4 :: o5 :: o6 :: o7 :: o8 :: o9 :: o10 :: o11 :: o12 :: o13 :: o14 :: o15 :: o16 :: some d :: r) w Q := h
theorem x_v18 {o0 o1 o2 o3 o4 o5 o6 o7 o8 o9 o10 o11 o12 o13 o14 o15 o16 o17 : Option PV} {r : Sl} (h : Q d w) : wVar 18 (o0 :: o1 :: o2 :: o3 :: o4 :: o5 :: o6 :: o7 :: o8 :: o9 :: o10 :: o11 :: o12 :: o13 :: o14 :: o15 :: o16 :: o17 :: some d :: r) w Q := h
theorem x_v19 {o0 o1 o2 o3 o4 o5 o6 o7 o8 o9 o10 o11 o12 o13 o14 o15 o16 o17 o18 : Option PV} {r : Sl} (h : Q d w) : wVar 19 (o0 :: o1 :: o2 :: o3 :: o4 :: o5 :: o6 :: o7 :: o8 :: o9 :: o10 :: o11 :: o12 :: o13 :: o14 :: o15 :: o16 :: o17 :: o18 :: some d :: r) w Q := h
theorem x_v20 {o0 o1 o2 o3 o4 o5 o6 o7 o8 o9 o10 o11 o12 o13 o14 o15 o16 o17 o18 o19 : Option PV} {r : Sl} (h : Q d w) : wVar 20 (o0 :: o1 :: o2 :: o3 :: o4 :: o5 :: o6 :: o7 :: o8 :: o9 :: o10 :: o11 :: o12 :: o13 :: o14 :: o15 :: o16 :: o17 :: o18 :: o19 :: some d :: r) w Q := h
theorem x_v21 {o0 o1 o2 o3 o4 o5 o6 o7 o8 o9 o10 o11 o12 o13 o14 o15 o16 o17 o18 o19 o20 : Option PV} {r : Sl} (h : Q d w) : wVar 21 (o0 :: o1 :: o2 :: o3 :: o4 :: o5 :: o6 :: o7 :: o8 :: o9 :: o10 :: o11 :: o12 :: o13 :: o14 :: o15 :: o16 :: o17 :: o18 :: o19 :: o20 :: some d :: r) w Q := h
theorem x_v22 {o0 o1 o2 o3 o4 o5 o6 o7 o8 o9 o10 o11 o12 o13 o14 o15 o16 o17 o18 o19 o20 o21 : Option PV} {r : Sl} (h : Q d w) : wVar 22 (o0 :: o1 :: o2 :: o3 :: o4 :: o5 :: o6 :: o7 :: o8 :: o9 :: o10 :: o11 :: o12 :: o13 :: o14 :: o15 :: o16 :: o17 :: o18 :: o19 :: o20 :: o21 :: some d :: r) w Q := h
theorem x_v23 {o0 o1 o2 o3 o4 o5 o6 o7 o8 o9 o10 o11 o12 o13 o14 o15 o16 o17 o18 o19 o20 o21 o22 : Option PV} {r : Sl} (h : Q d w) : wVar 23 (o0 :: o1 :: o2 :: o3 :: o4 :: o5 :: o6 :: o7 :: o8 :: o9 :: o10 :: o11 :: o12 :: o13 :: o14 :: o15 :: o16 :: o17 :: o18 :: o19 :: o20 :: o21 :: o22 :: some d :: r) w Q := h
theorem x_v24 {o0 o1 o2 o3 o4 o5 o6 o7 o8 o9 o10 o11 o12 o13 o14 o15 o16 o17 o18 o19 o20 o21 o22 o23 : Option PV} {r : Sl} (h : Q d w) : wVar 24 (o0 :: o1 :: o2 :: o3 :: o4 :: o5 :: o6 :: o7 :: o8 :: o9 :: o10 :: o11 :: o12 :: o13 :: o14 :: o15 :: o16 :: o17 :: o18 :: o19 :: o20 :: o21 :: o22 :: o23 :: some d :: r) w Q := h
theorem x_v25 {o0 o1 o2 o3 o4 o5 o6 o7 o8 o9 o10 o11 o12 o13 o14 o15 o16 o17 o18 o19 o20 o21 o22 o23 o24 : Option PV} {r : Sl} (h : Q d w) : wVar 25 (o0 :: o1 :: o2 :: o3 :: o4 :: o5 :: o6 :: o7 :: o8 :: o9 :: o10 :: o11 :: o12 :: o13 :: o14 :: o15 :: o16 :: o17 :: o18 :: o19 :: o20 :: o21 :: o22 :: o23 :: o24 :: some d :: r) w Q := h
theorem x_c (h : Q d w) : wC d ρ w Q := h
theorem x_op (h : ta ρ w fun x w1 => tb ρ w1 fun y w2 => r x y w2 Q) : wOp r ta tb ρ w Q := h
theorem x_andV (h : ta ρ w fun x w1 => onB x fun c => if c = true then tb ρ w1 Q else Q (.bl false) w1) : wAndV ta tb ρ w Q := h
theorem x_orV (h : ta ρ w fun x w1 => onB x fun c => if c = true then Q (.bl true) w1 else tb ρ w1 Q) : wOrV ta tb ρ w Q := h
theorem x_notV (h : ta ρ w fun x w1 => onB x fun c => Q (.bl (!c)) w1) : wNotV ta ρ w Q := h
theorem x_ifE (h : tA ρ w fun c w1 => if c = true then ta ρ w1 Q else tb ρ w1 Q) : wIfE tA ta tb ρ w Q := h
theorem x_neg (h : ta ρ w fun x w1 => rNeg x w1 Q) : wNeg ta ρ w Q := h
theorem x_rneg (h : Q (.int (-i)) w) : rNeg (.int i) w Q := h
theorem x_chain (h : ta ρ w fun x w1 => tb ρ w1 fun y w2 => r x y w2 fun z w3 => onB z fun k => if k = true then tc ρ w3 fun u w4 => r' y u w4 Q else Q (.bl false) w3) : wChain r r' ta tb tc ρ w Q := h
theorem x_tup (h : TA ρ w fun xs w1 => xs.length ≤ sizeLine ∧ Q (.tup xs) w1) : wTup TA ρ w Q := h
theorem x_lst (h : TA ρ w fun xs w1 => xs.length ≤ sizeLine ∧ Q (.lst xs) w1) : wLst TA ρ w Q := h
theorem x_mlst (h : TA ρ w fun xs w1 => xs.length ≤ sizeLine ∧ ∀ p, w1 p = none → Q (.ref p) (wset w1 p (.lst xs))) : wMLst TA ρ w Q := h
theorem x_cons {N : List PV → Wd → Prop} (h : ta ρ w fun x w1 => TA ρ w1 fun xs w2 => N (x :: xs) w2) : wCons ta TA ρ w N := h
theorem x_nil {N : List PV → Wd → Prop} (h : N [] w) : wNil ρ w N := h
theorem x_cb (h : TA ρ w fun ds w1 => rc ds w1 Q) : wCB rc TA ρ w Q := h
theorem x_call (h : TA ρ w fun ds w1 => p ds w1 Q) : wCall p TA ρ w Q := h
theorem x_ixc (h : ta ρ w fun x w1 => rIxC n x w1 Q) : wIxC n ta ρ w Q := h
theorem x_rixl (h : onAt ds n fun d => Q d w) : rIxC n (.lst ds) w Q := h
theorem x_rixt (h : onAt ds n fun d => Q d w) : rIxC n (.tup ds) w Q := h
theorem x_rixz (h : onAt ds n fun d => Q d w) : rIxC n (.scr ds) w Q := h
theorem x_rixr (hw : w a = some (.lst ds)) (h : onAt ds n fun d => Q d w) : rIxC n (.ref a) w Q := by unfold rIxC; simp only [vw, hw]; exact h
theorem x_at {α : Type} {xs : List α} {c : α} {N : α → Prop} (e : xs[n]? = some c) (h : N c) : onAt xs n N := onAt_of e h
theorem x_at0 {α : Type} {c0 : α} {r : List α} {N : α → Prop} (h : N c0) : onAt (c0 :: r) 0 N := h
theorem x_at1 {α : Type} {c0 c1 : α} {r : List α} {N : α → Prop} (h : N c1) : onAt (c0 :: c1 :: r) 1 N := h
theorem x_at2 {α : Type} {c0 c1 c2 : α} {r : List α} {N : α → Prop} (h : N c2) : onAt (c0 :: c1 :: c2 :: r) 2 N := h
theorem x_at3 {α : Type} {c0 c1 c2 c3 : α} {r : List α} {N : α → Prop} (h : N c3) : onAt (c0 :: c1 :: c2 :: c3 :: r) 3 N := h
theorem x_at4 {α : Type} {c0 c1 c2 c3 c4 : α} {r : List α} {N : α → Prop} (h : N c4) : onAt (c0 :: c1 :: c2 :: c3 :: c4 :: r) 4 N := h
theorem x_at5 {α : Type} {c0 c1 c2 c3 c4 c5 : α} {r : List α} {N : α → Prop} (h : N c5) : onAt (c0 :: c1 :: c2 :: c3 :: c4 :: c5 :: r) 5 N := h
theorem x_at6 {α : Type} {c0 c1 c2 c3 c4 c5 c6 : α} {r : List α} {N : α → Prop} (h : N c6) : onAt (c0 :: c1 :: c2 :: c3 :: c4 :: c5 :: c6 :: r) 6 N := h
theorem x_sl (h : te ρ w fun x w1 => tl ρ w1 fun l w2 => th ρ w2 fun u w3 => rSl l u x w3 Q) : wSl te tl th ρ w Q := h
theorem x_no {N : Option Int → Wd → Prop} (h : N none w) : wNo ρ w N := h
theorem x_part {N : Option Int → Wd → Prop} (h : te ρ w fun x w1 => onI x fun i => N (some i) w1) : wPart te ρ w N := h
theorem x_onI {N : Int → Prop} (h : N i) : onI (.int i) N := h
theorem x_onB {N : Bool → Prop} (h : N b) : onB (.bl b) N := h
theorem x_onS {N : Str → Prop} (h : N s) : onS (.str s) N := h
theorem x_sll {l u : Option Int} (h : Q (.lst (cutD ds l u)) w) : rSl l u (.lst ds) w Q := h
theorem x_slz {l u : Option Int} (h : Q (.lst (cutD ds l u)) w) : rSl l u (.scr ds) w Q := h
theorem x_slt {l u : Option Int} (h : Q (.tup (cutD ds l u)) w) : rSl l u (.tup ds) w Q := h
theorem x_sls {l u : Option Int} (hl : s.length ≤ sizeLine) (h : Q (.str (cutS s l u)) w) : rSl l u (.str s) w Q := ⟨hl, h⟩
theorem x_lc (h : wi ρ w fun ds w1 => ds.length < sizeLine ∧ compD g tA te (wipeD ρ vs) (fun acc w2 => Q (.lst acc) w2) ds [] w1) : wLc wi g tA te vs ρ w Q := h
theorem x_seqI {N : List PV → Wd → Prop} (h : te ρ w fun x w1 => onSeq x fun ds => N ds w1) : wSeq te ρ w N := h
theorem x_sql {N : List PV → Prop} (h : N ds) : onSeq (.lst ds) N := h
theorem x_sqt {N : List PV → Prop} (h : N ds) : onSeq (.tup ds) N := h
theorem x_sqz {N : List PV → Prop} (h : N ds) : onSeq (.scr ds) N := h
theorem x_sqs {N : List PV → Prop} (h : N (signs s)) : onSeq (.str s) N := h
theorem x_rng1 {N : List PV → Wd → Prop} (h : TA ρ w fun ds w1 => rRng1 ds fun xs => N xs w1) : wRng1 TA ρ w N := h
theorem x_rrng1 {N : List PV → Prop} (h1 : -(2 ^ 62) ≤ j) (h2 : j < 2 ^ 62) (h : N (nums 0 j.toNat)) : rRng1 [.int j] N := ⟨⟨h1, h2⟩, h⟩
theorem x_rng2 {N : List PV → Wd → Prop} (h : TA ρ w fun ds w1 => rRng2 ds fun xs => N xs w1) : wRng2 TA ρ w N := h
theorem x_rrng2 {N : List PV → Prop} (h1 : -(2 ^ 62) ≤ i ∧ i < 2 ^ 62 ∧ -(2 ^ 62) ≤ j ∧ j < 2 ^ 62) (h : N (nums i (j - i).toNat)) : rRng2 [.int i, .int j] N := ⟨h1, h⟩
theorem x_join (h : ta ρ w fun x w1 => onS x fun a => te ρ w1 fun y w2 => rJoin a y w2 Q) : wJoin ta te ρ w Q := h
theorem x_test {N : Bool → Wd → Prop} (h : te ρ w fun z w1 => onB z fun b => N b w1) : wTest te ρ w N := h
theorem x_andT {N : Bool → Wd → Prop} (h : tA ρ w fun c w1 => if c = true then tB ρ w1 N else N false w1) : wAndT tA tB ρ w N := h
theorem x_orT {N : Bool → Wd → Prop} (h : tA ρ w fun c w1 => if c = true then N true w1 else tB ρ w1 N) : wOrT tA tB ρ w N := h
theorem x_notT {N : Bool → Wd → Prop} (h : tA ρ w fun c w1 => N (!c) w1) : wNotT tA ρ w N := h
theorem x_addI (h : Q (.int (i + j)) w) : dAdd (.int i) (.int j) w Q := h
theorem x_addS (hl : s.length + z.length ≤ sizeLine) (h : Q (.str (s ++ z)) w) : dAdd (.str s) (.str z) w Q := ⟨hl, h⟩
theorem x_addL (hl : ds.length + es.length ≤ sizeLine) (h : Q (.lst (ds ++ es)) w) : dAdd (.lst ds) (.lst es) w Q := ⟨hl, h⟩
theorem x_addT (hl : ds.length + es.length ≤ sizeLine) (h : Q (.tup (ds ++ es)) w) : dAdd (.tup ds) (.tup es) w Q := ⟨hl, h⟩
theorem x_sub (h : Q (.int (i - j)) w) : dSub (.int i) (.int j) w Q := h
theorem x_mod (c : 0 < j) (h : Q (.int (i % j)) w) : dMod (.int i) (.int j) w Q := ⟨c, h⟩
theorem x_fdiv (c : 0 < j) (c2 : j < 2 ^ 64) (h : Q (.int (i / j)) w) : dFdiv (.int i) (.int j) w Q := ⟨wide_div c (b := 64) (by omega) (by decide) (by decide), h⟩
theorem x_pow (c0 : 0 ≤ j) (c : j ≤ 1000000) (c2 : i.natAbs < 2 ^ 64) (h : Q (.int (i ^ j.toNat)) w) : dPow (.int i) (.int j) w Q := ⟨⟨c0, c, c2⟩, h⟩
theorem x_mul (c : (-(2 ^ 64) < i ∧ i < 2 ^ 64) ∨ (-(2 ^ 64) < j ∧ j < 2 ^ 64)) (h : Q (.int (i * j)) w) : dMul (.int i) (.int j) w Q := ⟨.inl c, h⟩
theorem x_mulS (c : MulOk s i) (h : Q (.str (Txt.mul s i)) w) : dMul (.str s) (.int i) w Q := ⟨c, h⟩
theorem x_eq (c1 : x.pl = true) (c2 : y.pl = true) (c3 : x.dep ≤ 64) (h : Q (.bl (PV.eqb x y)) w) : dEq x y w Q := ⟨⟨c1, c2, c3⟩, h⟩
theorem x_ne (c1 : x.pl = true) (c2 : y.pl = true) (c3 : x.dep ≤ 64) (h : Q (.bl (!PV.eqb x y)) w) : dNe x y w Q := ⟨⟨c1, c2, c3⟩, h⟩
theorem x_eqI (h : Q (.bl (decide (i = j))) w) : dEq (.int i) (.int j) w Q := ⟨⟨by simp [PV.pl], by simp [PV.pl], by simp [PV.dep]⟩, by simpa [PV.eqb, Bool.beq_eq_decide_eq] using h⟩
theorem x_neI (h : Q (.bl (!decide (i = j))) w) : dNe (.int i) (.int j) w Q := ⟨⟨by simp [PV.pl], by simp [PV.pl], by simp [PV.dep]⟩, by simpa [PV.eqb, Bool.beq_eq_decide_eq] using h⟩
theorem str_beq (x y : Str) : (x == y) = decide (x = y) := by
  by_cases e : x = y
  · subst e; simp
  · rw [decide_eq_false e]; simpa using e
theorem x_eqS (h : Q (.bl (decide (s = z))) w) : dEq (.str s) (.str z) w Q := ⟨⟨by simp [PV.pl], by simp [PV.pl], by simp [PV.dep]⟩, by simp only [PV.eqb, str_beq]; exact h⟩
theorem x_neS (h : Q (.bl (!decide (s = z))) w) : dNe (.str s) (.str z) w Q := ⟨⟨by simp [PV.pl], by simp [PV.pl], by simp [PV.dep]⟩, by simp only [PV.eqb, str_beq]; exact h⟩
theorem x_eqB {c : Bool} (h : Q (.bl (b == c)) w) : dEq (.bl b) (.bl c) w Q := ⟨⟨by simp [PV.pl], by simp [PV.pl], by simp [PV.dep]⟩, by simpa [PV.eqb] using h⟩
theorem x_ltI (h : Q (.bl (decide (i < j))) w) : dLt (.int i) (.int j) w Q := h
theorem x_leI (h : Q (.bl (decide (i ≤ j))) w) : dLe (.int i) (.int j) w Q := h
theorem x_gtI (h : Q (.bl (decide (j < i))) w) : dGt (.int i) (.int j) w Q := h
theorem x_geI (h : Q (.bl (decide (j ≤ i))) w) : dGe (.int i) (.int j) w Q := h
theorem x_ltS (h : Q (.bl (decide (s.cps.toList < z.cps.toList))) w) : dLt (.str s) (.str z) w Q := h
theorem x_gtS (h : Q (.bl (decide (z.cps.toList < s.cps.toList))) w) : dGt (.str s) (.str z) w Q := h
theorem x_isnt (h : Q (.bl true) w) : dIs false .non .non w Q := h
theorem x_isB {c : Bool} (h : Q (.bl (decide (b = c))) w) : dIs false (.bl b) (.bl c) w Q := h
theorem x_isnB {c : Bool} (h : Q (.bl (!decide (b = c))) w) : dIs true (.bl b) (.bl c) w Q := h
theorem x_lenL (h : Q (.int ds.length) w) : cLen [.lst ds] w Q := h
theorem x_lenT (h : Q (.int ds.length) w) : cLen [.tup ds] w Q := h
theorem x_lenZ (h : Q (.int ds.length) w) : cLen [.scr ds] w Q := h
theorem x_lenS (hl : s.length ≤ sizeLine) (h : Q (.int s.length) w) : cLen [.str s] w Q := ⟨hl, h⟩
theorem x_lenR (hw : w a = some (.lst ds)) (h : Q (.int ds.length) w) : cLen [.ref a] w Q := by unfold cLen; simp only [vw, hw]; exact h
theorem x_abs (h : Q (.int (if i < 0 then -i else i)) w) : cAbs [.int i] w Q := h
theorem x_max (h : Q (.int (if j > i then j else i)) w) : cMax2 [.int i, .int j] w Q := h
theorem x_min (h : Q (.int (if j < i then j else i)) w) : cMin2 [.int i, .int j] w Q := h
theorem x_intI (h : Q (.int i) w) : cInt [.int i] w Q := h
theorem x_intB (h : Q (.int (if b then 1 else 0)) w) : cInt [.bl b] w Q := h
theorem x_listL (h : Q (.lst ds) w) : cList [.lst ds] w Q := h
theorem x_listT (h : Q (.lst ds) w) : cList [.tup ds] w Q := h
theorem x_tupL (h : Q (.tup ds) w) : cTuple [.lst ds] w Q := h
theorem x_tupT (h : Q (.tup ds) w) : cTuple [.tup ds] w Q := h
theorem x_cI {c : String} {f : Wd → PV → Bool} (o : okTy w x) (h : Q (.bl (f w x)) w) : cI c f [x, .ty c] w Q := ⟨rfl, o, h⟩
theorem x_cI2 {c1 c2 : String} {f1 f2 : Wd → PV → Bool} (o : okTy w x) (h : Q (.bl (f1 w x || f2 w x)) w) : cI2 c1 c2 f1 f2 [x, .tup [.ty c1, .ty c2]] w Q := ⟨⟨rfl, rfl⟩, o, h⟩
theorem x_ixL (e : atI ds i = some d) (h : Q d w) : dIx (.lst ds) (.int i) w Q := ⟨d, e, h⟩
theorem x_ixT (e : atI ds i = some d) (h : Q d w) : dIx (.tup ds) (.int i) w Q := ⟨d, e, h⟩
theorem x_ixZ (e : atI ds i = some d) (h : Q d w) : dIx (.scr ds) (.int i) w Q := ⟨d, e, h⟩
theorem x_ixS {c : Nat} (e : atI s.cps.toList i = some c) (hl : s.length ≤ sizeLine) (h : Q (.str ⟨#[c]⟩) w) : dIx (.str s) (.int i) w Q := ⟨hl, c, e, h⟩
theorem x_and (c : A) (h : B) : A ∧ B := ⟨c, h⟩
theorem x_iteT {c : Prop} [Decidable c] (hc : c) (h : A) : if decide c = true then A else B := by rw [if_pos (decide_eq_true hc)]; exact h
theorem x_iteF {c : Prop} [Decidable c] (hc : ¬ c) (h : B) : if decide c = true then A else B := by rw [if_neg (by simpa using hc)]; exact h
theorem x_iteNT {c : Prop} [Decidable c] (hc : ¬ c) (h : A) : if (!decide c) = true then A else B := by rw [if_pos (by simpa using hc)]; exact h
theorem x_iteNF {c : Prop} [Decidable c] (hc : c) (h : B) : if (!decide c) = true then A else B := by rw [if_neg (by simpa using hc)]; exact h
theorem x_ite {c : Prop} [Decidable c] (h1 : c → A) (h2 : ¬ c → B) : if decide c = true then A else B := ite2 (fun h => h1 (by simpa using h)) fun h => h2 (by simpa using h)
theorem x_iteN {c : Prop} [Decidable c] (h1 : ¬ c → A) (h2 : c → B) : if (!decide c) = true then A else B := ite2 (fun h => h1 (by simpa using h)) fun h => h2 (by simpa using h)
theorem x_iTrue (h : A) : if True then A else B := by rw [if_pos True.intro]; exact h
theorem x_iFalse (h : B) : if False then A else B := by rw [if_neg id]; exact h
theorem x_iteV (hb : b = true) (h : A) : if b = true then A else B := by rw [if_pos hb]; exact h
theorem x_iteW (hb : b = false) (h : B) : if b = true then A else B := by rw [if_neg (by rw [hb]; decide)]; exact h
theorem x_iteNV (hb : b = false) (h : A) : if (!b) = true then A else B := by rw [if_pos (by rw [hb]; rfl)]; exact h
theorem x_iteNW (hb : b = true) (h : B) : if (!b) = true then A else B := by rw [if_neg (by rw [hb]; decide)]; exact h
theorem x_iteB (h1 : b = true → A) (h2 : b = false → B) : if b = true then A else B := ite2 h1 fun h => h2 (by simpa using h)
end
end Pd

/-! plain mathematics: texts, names -/
namespace Pd
open PySem L2

/-- a sign from a to z -/
def isLow (c : Nat) : Bool := decide (97 ≤ c) && decide (c ≤ 122)
/-- a NAME -/
def nameS (x : Str) : Bool := decide (1 ≤ x.length) && decide (x.length ≤ 8) && x.cps.toList.all isLow
def isNm : PV → Bool
  | .str x => nameS x
  | _ => false
def isVal : PV → Bool
  | .int _ => true
  | .str _ => true
  | _ => false
theorem letters_list : ("abcdefghijklmnopqrstuvwxyz" : Str).cps.toList = [97, 98, 99, 100, 101, 102, 103, 104, 105, 106, 107, 108, 109, 110, 111, 112, 113, 114, 115, 116, 117, 118, 119, 120, 121, 122] := by decide +kernel
theorem mem_letters (c : Nat) : decide (c ∈ ("abcdefghijklmnopqrstuvwxyz" : Str).cps.toList) = isLow c := by
  rw [letters_list, Bool.eq_iff_iff]
  simp only [decide_eq_true_eq, isLow, Bool.and_eq_true, List.mem_cons, List.not_mem_nil, or_false]
  omega
theorem cps_a : ("a" : Str).cps.toList = [97] := by decide +kernel
theorem cps_z : ("z" : Str).cps.toList = [122] := by decide +kernel
theorem lt_one (c d : Nat) : decide ([c] < [d]) = decide (c < d) := by
  rw [Bool.eq_iff_iff]
  simp only [decide_eq_true_eq]
  constructor
  · intro h
    cases h with
    | rel h => exact h
    | cons h => cases h
  · intro h; exact .rel h
theorem all_not_filter {α : Type} (p q : α → Bool) (h : ∀ x, p x = !q x) : ∀ xs : List α, (xs.filter q).isEmpty = xs.all p
  | [] => rfl
  | x :: r => by
    rw [List.all_cons, h x]
    cases e : q x with
    | true => simp [List.filter_cons, e]
    | false => simp only [List.filter_cons, e, Bool.false_eq_true, if_false, Bool.not_false, Bool.true_and]; exact all_not_filter p q h r
theorem eqbs_nil (xs : List PV) : PV.eqbs xs [] = xs.isEmpty := by
  cases xs <;> simp [PV.eqbs]
theorem pls_all {f : α → PV} (h : ∀ x, (f x).pl = true) : ∀ xs : List α, PV.pls (xs.map f) = true
  | [] => by simp [PV.pls]
  | x :: r => by simp [PV.pls, h x, pls_all h r]
theorem deps_all {f : α → PV} {n : Nat} (h : ∀ x, (f x).dep ≤ n) : ∀ xs : List α, PV.deps (xs.map f) ≤ n
  | [] => by simp [PV.deps]
  | x :: r => by
    have := deps_all h r
    have := h x
    simp only [List.map_cons, PV.deps]; omega
theorem pls_iff : ∀ {ds : List PV}, PV.pls ds = true ↔ ∀ d ∈ ds, d.pl = true
  | [] => by simp [PV.pls]
  | x :: r => by simp [PV.pls, pls_iff (ds := r)]
theorem pls_append {xs ys : List PV} (h1 : PV.pls xs = true) (h2 : PV.pls ys = true) : PV.pls (xs ++ ys) = true := by
  rw [pls_iff] at *
  intro d hd
  rcases List.mem_append.mp hd with h | h
  · exact h1 d h
  · exact h2 d h
/-- data has a known class -/
theorem okTy_pl {w : Wd} {d : PV} (h : d.pl = true) : okTy w d := by
  cases d <;> simp [PV.pl] at h <;> exact True.intro
theorem comp_mapG {α : Type} {i : Nat} {te : WE} {ρ : Sl} {k : List PV → Wd → Prop} {w : Wd} (g f : α → PV) : ∀ (xs : List α) (acc : List PV), (∀ x ∈ xs, ∀ Q : WQ, Q (f x) w → te (ρ.set i (some (g x))) w Q) → k (acc ++ xs.map f) w → compD (wName i) wYes te ρ k (xs.map g) acc w
  | [], acc, _, h => by simpa [compD] using h
  | d :: r, acc, he, h => by
    simp only [List.map_cons, compD, wName, wYes, if_true]
    refine he d (List.mem_cons_self) _ ?_
    exact comp_mapG g f r _ (fun x hx => he x (List.mem_cons_of_mem _ hx)) (by simpa using h)
theorem comp_filterG {α : Type} {i : Nat} {tt : WT} {te : WE} {ρ : Sl} {k : List PV → Wd → Prop} {w : Wd} (g : α → PV) (p : α → Bool) (f : α → PV) : ∀ (xs : List α) (acc : List PV), (∀ x ∈ xs, ∀ Q : Bool → Wd → Prop, Q (p x) w → tt (ρ.set i (some (g x))) w Q) → (∀ x ∈ xs, p x = true → ∀ Q : WQ, Q (f x) w → te (ρ.set i (some (g x))) w Q) → k (acc ++ (xs.filter p).map f) w → compD (wName i) tt te ρ k (xs.map g) acc w
  | [], acc, _, _, h => by simpa [compD] using h
  | d :: r, acc, ht, he, h => by
    simp only [List.map_cons, compD, wName]
    refine ht d (List.mem_cons_self) _ ?_
    cases e : p d with
    | true =>
      simp only [if_true]
      refine he d (List.mem_cons_self) e _ ?_
      exact comp_filterG g p f r _ (fun x hx => ht x (List.mem_cons_of_mem _ hx)) (fun x hx => he x (List.mem_cons_of_mem _ hx)) (by simpa [List.filter_cons, e] using h)
    | false =>
      simp only [Bool.false_eq_true, if_false]
      exact comp_filterG g p f r _ (fun x hx => ht x (List.mem_cons_of_mem _ hx)) (fun x hx => he x (List.mem_cons_of_mem _ hx)) (by simpa [List.filter_cons, e] using h)
/-- one sign a text, joined by nothing -/
theorem join_signs (ys : List Str) : (Txt.join "" ys).cps.toList = (ys.map (·.cps.toList)).flatten := by
  rw [TL.join_eq]
  have h := TL.tl_join "" ys
  have e : TL.tl ("" : Str) = [] := by decide +kernel
  rw [e] at h
  have j : ∀ ps : List (List Nat), TL.joinL [] ps = ps.flatten := by
    intro ps
    induction ps with
    | nil => rfl
    | cons p r ih =>
      cases r with
      | nil => simp [TL.joinL]
      | cons q r => simp only [TL.joinL, List.nil_append, ih, List.flatten_cons]
  rw [j] at h
  exact h
theorem str_len (x : Str) : x.length = x.cps.toList.length := by simp [Str.length]
theorem join_len {ys : List Str} (h : ∀ y ∈ ys, y.length = 1) : (Txt.join "" ys).length = ys.length := by
  rw [str_len, join_signs]
  induction ys with
  | nil => rfl
  | cons y r ih =>
    simp only [List.map_cons, List.flatten_cons, List.length_append, List.length_cons]
    rw [ih fun z hz => h z (List.mem_cons_of_mem _ hz), ← str_len, h y List.mem_cons_self]
    omega
theorem cutS_len (z : Str) (lo hi : Option Int) : (cutS z lo hi).length ≤ z.length := by
  rw [str_len, str_len]
  simp only [cutS, List.length_take, List.length_drop]
  omega
theorem app_len (x y : Str) : (x ++ y).length = x.length + y.length := by
  rw [str_len, str_len, str_len]
  show (x.cps ++ y.cps).toList.length = _
  simp
theorem sl_small {n : Nat} (h : n ≤ 1000000) : n ≤ sizeLine := by rw [sizeLine_eq]; omega
theorem strsOf_map : ∀ xs : List Str, strsOf (xs.map PV.str) = some xs
  | [] => rfl
  | x :: r => by simp [strsOf, strsOf_map r]
end Pd
namespace Pd
open PySem L2
theorem cutD_map {α β : Type} (f : α → β) (xs : List α) (lo hi : Option Int) : cutD (xs.map f) lo hi = (cutD xs lo hi).map f := by
  unfold cutD
  rw [List.length_map, List.map_take, List.map_drop]
theorem cutD_le {α : Type} (xs : List α) (n : Nat) : (cutD xs none (some (n : Int))).length ≤ n := by
  unfold cutD
  rw [HT.sIx_nat, HT.sIx_none, List.length_take]
  omega
theorem cutD_mem {α : Type} {xs : List α} {lo hi : Option Int} {x : α} (h : x ∈ cutD xs lo hi) : x ∈ xs := by
  unfold cutD at h
  exact List.mem_of_mem_drop (List.mem_of_mem_take h)
theorem cutD_len {α : Type} (xs : List α) (lo hi : Option Int) : (cutD xs lo hi).length ≤ xs.length := by
  unfold cutD
  rw [List.length_take, List.length_drop]
  omega
/-- data that is handed about: no things, not deep, texts not long -/
def szB : PV → Bool
  | .str s => decide (s.length ≤ 1000)
  | _ => true
def okB (d : PV) : Bool := d.pl && decide (d.dep ≤ 10) && szB d
section
variable {w : Wd} {Q : WQ} {d : PV} {ds : List PV} {i : Int} {s : Str}
theorem all_mem {p : PV → Bool} (h : ds.all p = true) : ∀ d ∈ ds, p d = true := List.all_eq_true.mp h
theorem x_ixLB (p : PV → Bool) (h0 : 0 ≤ i) (h1 : i < ds.length) (ha : ds.all p = true) (h : ∀ d, p d = true → d ∈ ds → Q d w) : dIx (.lst ds) (.int i) w Q := by
  obtain ⟨d, hd, hm⟩ := atI_lt h0 h1
  exact ⟨d, hd, h d (all_mem ha d hm) hm⟩
theorem x_ixTB (p : PV → Bool) (h0 : 0 ≤ i) (h1 : i < ds.length) (ha : ds.all p = true) (h : ∀ d, p d = true → d ∈ ds → Q d w) : dIx (.tup ds) (.int i) w Q := by
  obtain ⟨d, hd, hm⟩ := atI_lt h0 h1
  exact ⟨d, hd, h d (all_mem ha d hm) hm⟩
theorem x_ixSB (h0 : 0 ≤ i) (h1 : i < s.length) (hl : s.length ≤ sizeLine) (h : ∀ c, c ∈ s.cps.toList → Q (.str ⟨#[c]⟩) w) : dIx (.str s) (.int i) w Q := by
  rw [str_len] at h1
  obtain ⟨c, hc, hm⟩ := atI_lt h0 h1
  exact ⟨hl, c, hc, h c hm⟩
end
theorem nums_zero (n : Nat) : nums 0 n = (List.range n).map fun (i : Nat) => PV.int (0 + i) := rfl
end Pd

namespace Lw
open PySem L2 Pd
def top (i : Nat) : Stmt := PySem.Challenge.pw_webstore_k14_what_ways_are.main.body.getD i (.Pass ⟨0, 0, 0, 0⟩)
abbrev s_is_text : Stmt := top 3
abbrev n_is_text : List Str := ["thing"]
theorem sc_is_text : FnScope n_is_text ["thing"] (defScope s_is_text) := ⟨rfl, rfl, rfl, by decide +kernel, rfl, by decide +kernel, by decide +kernel⟩
abbrev s_is_name : Stmt := top 4
abbrev n_is_name : List Str := ["thing", "sign"]
theorem sc_is_name : FnScope n_is_name ["thing"] (defScope s_is_name) := ⟨rfl, rfl, rfl, by decide +kernel, rfl, by decide +kernel, by decide +kernel⟩
abbrev s_is_times : Stmt := top 7
abbrev n_is_times : List Str := ["low", "high", "thing"]
theorem sc_is_times : FnScope n_is_times ["low", "high"] (defScope s_is_times) := ⟨rfl, rfl, rfl, by decide +kernel, rfl, by decide +kernel, by decide +kernel⟩
abbrev s_is_step : Stmt := top 8
abbrev n_is_step : List Str := ["kind", "turn"]
theorem sc_is_step : FnScope n_is_step ["kind", "turn"] (defScope s_is_step) := ⟨rfl, rfl, rfl, by decide +kernel, rfl, by decide +kernel, by decide +kernel⟩
abbrev s_is_way : Stmt := top 9
abbrev n_is_way : List Str := ["thing", "word", "many"]
theorem sc_is_way : FnScope n_is_way ["thing"] (defScope s_is_way) := ⟨rfl, rfl, rfl, by decide +kernel, rfl, by decide +kernel, by decide +kernel⟩
abbrev s__law_hand : Stmt := top 11
abbrev n__law_hand : List Str := ["_law_script", "_law_k", "_law_cell", "_law_folded", "_law_one"]
theorem sc__law_hand : FnScope n__law_hand ["_law_script", "_law_k"] (defScope s__law_hand) := ⟨rfl, rfl, rfl, by decide +kernel, rfl, by decide +kernel, by decide +kernel⟩
abbrev s__law_take : Stmt := top 12
abbrev n__law_take : List Str := ["_law_hand_here", "_law_many", "_law_digit", "_law_c", "_law_m"]
theorem sc__law_take : FnScope n__law_take ["_law_hand_here", "_law_many"] (defScope s__law_take) := ⟨rfl, rfl, rfl, by decide +kernel, rfl, by decide +kernel, by decide +kernel⟩
abbrev s__law_kinds : Stmt := top 13
abbrev n__law_kinds : List Str := ["_law_hand_here", "_law_some", "_law_first", "_law_many"]
theorem sc__law_kinds : FnScope n__law_kinds ["_law_hand_here"] (defScope s__law_kinds) := ⟨rfl, rfl, rfl, by decide +kernel, rfl, by decide +kernel, by decide +kernel⟩
abbrev s__law_leaf : Stmt := top 14
abbrev n__law_leaf : List Str := ["_law_hand_here", "_law_kinds_here", "_law_how", "_law_kind"]
theorem sc__law_leaf : FnScope n__law_leaf ["_law_hand_here", "_law_kinds_here"] (defScope s__law_leaf) := ⟨rfl, rfl, rfl, by decide +kernel, rfl, by decide +kernel, by decide +kernel⟩
abbrev s__law_way : Stmt := top 15
abbrev n__law_way : List Str := ["_law_hand_here", "_law_kinds_here", "_law_room", "_law_nest", "_law_how", "_law_low", "_law_high", "_law_left", "_law_one"]
theorem sc__law_way : FnScope n__law_way ["_law_hand_here", "_law_kinds_here", "_law_room", "_law_nest"] (defScope s__law_way) := ⟨rfl, rfl, rfl, by decide +kernel, rfl, by decide +kernel, by decide +kernel⟩
abbrev s__law_is_name : Stmt := top 16
abbrev n__law_is_name : List Str := ["_law_thing", "_law_letters", "_law_sign"]
theorem sc__law_is_name : FnScope n__law_is_name ["_law_thing"] (defScope s__law_is_name) := ⟨rfl, rfl, rfl, by decide +kernel, rfl, by decide +kernel, by decide +kernel⟩
abbrev s__law_is_times : Stmt := top 17
abbrev n__law_is_times : List Str := ["_law_thing"]
theorem sc__law_is_times : FnScope n__law_is_times ["_law_thing"] (defScope s__law_is_times) := ⟨rfl, rfl, rfl, by decide +kernel, rfl, by decide +kernel, by decide +kernel⟩
abbrev s__law_due : Stmt := top 18
abbrev n__law_due : List Str := ["_law_thing", "_law_fine", "_law_size", "_law_part"]
theorem sc__law_due : FnScope n__law_due ["_law_thing"] (defScope s__law_due) := ⟨rfl, rfl, rfl, by decide +kernel, rfl, by decide +kernel, by decide +kernel⟩
abbrev s__law_odd : Stmt := top 19
abbrev n__law_odd : List Str := ["_law_hand_here", "_law_some"]
theorem sc__law_odd : FnScope n__law_odd ["_law_hand_here"] (defScope s__law_odd) := ⟨rfl, rfl, rfl, by decide +kernel, rfl, by decide +kernel, by decide +kernel⟩
abbrev s__law_spoilt : Stmt := top 20
abbrev n__law_spoilt : List Str := ["_law_hand_here", "_law_thing", "_law_how", "_law_at", "_law_part"]
theorem sc__law_spoilt : FnScope n__law_spoilt ["_law_hand_here", "_law_thing"] (defScope s__law_spoilt) := ⟨rfl, rfl, rfl, by decide +kernel, rfl, by decide +kernel, by decide +kernel⟩
abbrev s__law_right : Stmt := top 21
abbrev n__law_right : List Str := ["_law_thing", "_law_found"]
theorem sc__law_right : FnScope n__law_right ["_law_thing"] (defScope s__law_right) := ⟨rfl, rfl, rfl, by decide +kernel, rfl, by decide +kernel, by decide +kernel⟩
abbrev s_law : Stmt := top 22
abbrev n_law : List Str := ["_law_script", "_law_deep", "_law_k", "_law_hand_here", "_law_way_here", "_law_turn"]
theorem sc_law : FnScope n_law ["_law_script"] (defScope s_law) := ⟨rfl, rfl, rfl, by decide +kernel, rfl, by decide +kernel, by decide +kernel⟩
structure Tx (K : Frag) (mg : Str → Option Value) : Prop where
  f_is_text : Fx K mg "is_text" s_is_text ["thing"]
  f_is_name : Fx K mg "is_name" s_is_name ["thing"]
  f_is_times : Fx K mg "is_times" s_is_times ["low", "high"]
  f_is_step : Fx K mg "is_step" s_is_step ["kind", "turn"]
  f_is_way : Fx K mg "is_way" s_is_way ["thing"]
  f__law_hand : Fx K mg "_law_hand" s__law_hand ["_law_script", "_law_k"]
  f__law_take : Fx K mg "_law_take" s__law_take ["_law_hand_here", "_law_many"]
  f__law_kinds : Fx K mg "_law_kinds" s__law_kinds ["_law_hand_here"]
  f__law_leaf : Fx K mg "_law_leaf" s__law_leaf ["_law_hand_here", "_law_kinds_here"]
  f__law_way : Fx K mg "_law_way" s__law_way ["_law_hand_here", "_law_kinds_here", "_law_room", "_law_nest"]
  f__law_is_name : Fx K mg "_law_is_name" s__law_is_name ["_law_thing"]
  f__law_is_times : Fx K mg "_law_is_times" s__law_is_times ["_law_thing"]
  f__law_due : Fx K mg "_law_due" s__law_due ["_law_thing"]
  f__law_odd : Fx K mg "_law_odd" s__law_odd ["_law_hand_here"]
  f__law_spoilt : Fx K mg "_law_spoilt" s__law_spoilt ["_law_hand_here", "_law_thing"]
  f__law_right : Fx K mg "_law_right" s__law_right ["_law_thing"]
  z_abs : mg "abs" = none
  z_all : mg "all" = none
  z_bool : mg "bool" = none
  z_int : mg "int" = none
  z_isinstance : mg "isinstance" = none
  z_len : mg "len" = none
  z_list : mg "list" = none
  z_min : mg "min" = none
  z_range : mg "range" = none
  z_str : mg "str" = none
  z_tuple : mg "tuple" = none
  g_LETTERS : GS mg "LETTERS" "abcdefghijklmnopqrstuvwxyz"
  g_MOST_LETTERS : GI mg "MOST_LETTERS" 8
  g_MOST_TIMES : GI mg "MOST_TIMES" 6
section
variable {P : Program} {w : World} {K : Frag} {mg : Str → Option Value} {base : Heap}
def rd_is_text : WS :=
  (wRet (wCB (cI "str" isStrP) (wCons (wVar 0) (wCons (wC (.ty "str")) wNil))))
theorem dv_is_text {k : Nat} (T : Tx K mg) : ∀ (f : Addr) (cdv : Value) (A : Around) (outer : List Env) (s : Shared) (H : Hp) (E : XK), Room k (A.deeper (PyProof.Rows.envOfC "is_text" (defScope s_is_text) s.heap.objs.size f cdv)) →
    DSs (cxOf CX0 P w K mg base n_is_text "is_text" (defScope s_is_text) f cdv A outer s H E).nox (defBody s_is_text) (rd_is_text) := fun f cdv A outer s H E hr =>
  (ds_one (ds_ret (de_callB (ca_i tr_str) (by rfl) T.z_isinstance (by decide +kernel) (da_cons (de_var 0) (da_cons (de_ty (by rfl) T.z_str (by decide +kernel)) da_nil)))))
theorem fd_is_text {k : Nat} {p : PSp} (T : Tx K mg) (len : ∀ ds w Q, p ds w Q → ds.length = 1) (hp : ∀ (d0 : PV) (w' : Wd) (Q : WQ), p [d0] w' Q → rd_is_text { nx := fun _ w2 => Q .non w2, rt := Q } [some d0] w') : FD P w K mg base "is_text" (k + 1) p :=
  fd_of T.f_is_text sc_is_text (dv_is_text T) len fun ds w' Q h => match ds, len ds w' Q h, h with | [d0], _, h => hp d0 w' Q h
def rd_is_name (q_is_text : PSp) : WS :=
  (wSeq2 (wIf (wOrT (wNotT (wTest (wCall q_is_text (wCons (wVar 0) wNil)))) (wNotT (wTest (wChain (dLe) (dLe) (wC (.int 1)) (wCB cLen (wCons (wVar 0) wNil)) (wC (.int 8)))))) (wRet (wC (.bl false))) wNext) (wRet (wCB cAll (wCons (wLc (wSeq (wVar 0)) (wName 1) wYes (wOp (dIn false) (wVar 1) (wC (.str "abcdefghijklmnopqrstuvwxyz"))) [1]) wNil))))
theorem dv_is_name {q_is_text : PSp} {k_is_text k : Nat} (T : Tx K mg) (F_is_text : FD P w K mg base "is_text" k_is_text q_is_text) (l_is_text : k_is_text ≤ k) : ∀ (f : Addr) (cdv : Value) (A : Around) (outer : List Env) (s : Shared) (H : Hp) (E : XK), Room k (A.deeper (PyProof.Rows.envOfC "is_name" (defScope s_is_name) s.heap.objs.size f cdv)) →
    DSs (cxOf CX0 P w K mg base n_is_name "is_name" (defScope s_is_name) f cdv A outer s H E).nox (defBody s_is_name) (rd_is_name q_is_text) := fun f cdv A outer s H E hr =>
  (ds_cons (ds_if (dt_w (dw_or (dt_not (dt_val (de_call F_is_text (hr.mono l_is_text) (by rfl) (da_cons (de_var 0) da_nil)))) (dw_or1 (dt_not (dt_chain (cm_le) (cm_le) de_int (de_callB (ca_len) (by rfl) T.z_len (by decide +kernel) (da_cons (de_var 0) da_nil)) (de_gI (by rfl) T.g_MOST_LETTERS)))))) (ds_one (ds_ret de_bl)) ds_nil) (ds_one (ds_ret (de_callB (ca_all rfl) (by rfl) T.z_all (by decide +kernel) (da_cons (de_lc (own := [("sign", 1)]) rfl sc_is_name.nd (di_val (de_var 0)) (blkOk_by (N := n_is_name) (sc := defScope s_is_name) (by decide +kernel)) (fun _ _ _ _ _ => (dgw_name (i := 1) sc_is_name.nd rfl (by first | exact Or.inl rfl | exact Or.inr rfl) (by decide))) (fun _ _ _ _ _ => dts_nil) (fun _ _ _ _ _ => (de_cm (cm_in hr.units) (de_var 1) (de_gS (by rfl) T.g_LETTERS) (by rfl)))) da_nil)))))
theorem fd_is_name {q_is_text : PSp} {k_is_text k : Nat} {p : PSp} (T : Tx K mg) (F_is_text : FD P w K mg base "is_text" k_is_text q_is_text) (l_is_text : k_is_text ≤ k) (len : ∀ ds w Q, p ds w Q → ds.length = 1) (hp : ∀ (d0 : PV) (w' : Wd) (Q : WQ), p [d0] w' Q → rd_is_name q_is_text { nx := fun _ w2 => Q .non w2, rt := Q } [some d0, none] w') : FD P w K mg base "is_name" (k + 1) p :=
  fd_of T.f_is_name sc_is_name (dv_is_name T F_is_text l_is_text) len fun ds w' Q h => match ds, len ds w' Q h, h with | [d0], _, h => hp d0 w' Q h
def rd_is_times : WS :=
  (wSeq2 (wFor (wSeq (wTup (wCons (wVar 0) (wCons (wVar 1) wNil)))) (wName 2) (wIf (wOrT (wNotT (wTest (wCB (cI "int" isIntP) (wCons (wVar 2) (wCons (wC (.ty "int")) wNil))))) (wTest (wCB (cI "bool" isBoolP) (wCons (wVar 2) (wCons (wC (.ty "bool")) wNil))))) (wRet (wC (.bl false))) wNext)) (wRet (wChain3 (dLe) (dLe) (dLe) (wC (.int 0)) (wVar 0) (wVar 1) (wC (.int 6)))))
theorem dv_is_times {k : Nat} (T : Tx K mg) : ∀ (f : Addr) (cdv : Value) (A : Around) (outer : List Env) (s : Shared) (H : Hp) (E : XK), Room k (A.deeper (PyProof.Rows.envOfC "is_times" (defScope s_is_times) s.heap.objs.size f cdv)) →
    DSs (cxOf CX0 P w K mg base n_is_times "is_times" (defScope s_is_times) f cdv A outer s H E).nox (defBody s_is_times) (rd_is_times) := fun f cdv A outer s H E hr =>
  (ds_cons (ds_for PassesOwn.never rfl (di_val (de_tup (da_cons (de_var 0) (da_cons (de_var 1) da_nil)))) (dg_name (i := 2) sc_is_times.nd rfl (by first | exact Or.inl rfl | exact Or.inr rfl)) (ds_one (ds_if (dt_w (dw_or (dt_not (dt_val (de_callB (ca_i tr_int) (by rfl) T.z_isinstance (by decide +kernel) (da_cons (de_var 2) (da_cons (de_ty (by rfl) T.z_int (by decide +kernel)) da_nil))))) (dw_or1 (dt_val (de_callB (ca_i tr_bool) (by rfl) T.z_isinstance (by decide +kernel) (da_cons (de_var 2) (da_cons (de_ty (by rfl) T.z_bool (by decide +kernel)) da_nil))))))) (ds_one (ds_ret de_bl)) ds_nil))) (ds_one (ds_ret (de_chain3 (cm_le) (cm_le) (cm_le) de_int (de_var 0) (de_var 1) (de_gI (by rfl) T.g_MOST_TIMES)))))
theorem fd_is_times {k : Nat} {p : PSp} (T : Tx K mg) (len : ∀ ds w Q, p ds w Q → ds.length = 2) (hp : ∀ (d0 d1 : PV) (w' : Wd) (Q : WQ), p [d0, d1] w' Q → rd_is_times { nx := fun _ w2 => Q .non w2, rt := Q } [some d0, some d1, none] w') : FD P w K mg base "is_times" (k + 1) p :=
  fd_of T.f_is_times sc_is_times (dv_is_times T) len fun ds w' Q h => match ds, len ds w' Q h, h with | [d0, d1], _, h => hp d0 d1 w' Q h
def rd_is_step (q_is_name : PSp) : WS :=
  (wSeq2 (wIf (wAndT (wTest (wOp (dIs true) (wVar 0) (wC .non))) (wNotT (wTest (wCall q_is_name (wCons (wVar 0) wNil))))) (wRet (wC (.bl false))) wNext) (wRet (wAndV (wCB (cI "str" isStrP) (wCons (wVar 1) (wCons (wC (.ty "str")) wNil))) (wOp (dIn false) (wVar 1) (wTup (wCons (wC (.str "forth")) (wCons (wC (.str "back")) (wCons (wC (.str "either")) wNil))))))))
theorem dv_is_step {q_is_name : PSp} {k_is_name k : Nat} (T : Tx K mg) (F_is_name : FD P w K mg base "is_name" k_is_name q_is_name) (l_is_name : k_is_name ≤ k) : ∀ (f : Addr) (cdv : Value) (A : Around) (outer : List Env) (s : Shared) (H : Hp) (E : XK), Room k (A.deeper (PyProof.Rows.envOfC "is_step" (defScope s_is_step) s.heap.objs.size f cdv)) →
    DSs (cxOf CX0 P w K mg base n_is_step "is_step" (defScope s_is_step) f cdv A outer s H E).nox (defBody s_is_step) (rd_is_step q_is_name) := fun f cdv A outer s H E hr =>
  (ds_cons (ds_if (dt_w (dw_and (dt_cm (cm_isnot) (de_var 0) de_non (nomark _)) (dw_and1 (dt_not (dt_val (de_call F_is_name (hr.mono l_is_name) (by rfl) (da_cons (de_var 0) da_nil))))))) (ds_one (ds_ret de_bl)) ds_nil) (ds_one (ds_ret (de_and (de_callB (ca_i tr_str) (by rfl) T.z_isinstance (by decide +kernel) (da_cons (de_var 1) (da_cons (de_ty (by rfl) T.z_str (by decide +kernel)) da_nil))) (de_one (de_cm (cm_in hr.units) (de_var 1) (de_tup (da_cons de_str (da_cons de_str (da_cons de_str da_nil)))) (by rfl)))))))
theorem fd_is_step {q_is_name : PSp} {k_is_name k : Nat} {p : PSp} (T : Tx K mg) (F_is_name : FD P w K mg base "is_name" k_is_name q_is_name) (l_is_name : k_is_name ≤ k) (len : ∀ ds w Q, p ds w Q → ds.length = 2) (hp : ∀ (d0 d1 : PV) (w' : Wd) (Q : WQ), p [d0, d1] w' Q → rd_is_step q_is_name { nx := fun _ w2 => Q .non w2, rt := Q } [some d0, some d1] w') : FD P w K mg base "is_step" (k + 1) p :=
  fd_of T.f_is_step sc_is_step (dv_is_step T F_is_name l_is_name) len fun ds w' Q h => match ds, len ds w' Q h, h with | [d0, d1], _, h => hp d0 d1 w' Q h
def rd_is_way (q_is_way : PSp) (q_is_times : PSp) (q_is_step : PSp) : WS :=
  (wSeq2 (wIf (wOrT (wNotT (wTest (wCB (cI "tuple" isTupP) (wCons (wVar 0) (wCons (wC (.ty "tuple")) wNil))))) (wOrT (wTest (wOp (dEq) (wCB cLen (wCons (wVar 0) wNil)) (wC (.int 0)))) (wNotT (wTest (wCB (cI "str" isStrP) (wCons (wIxC 0 (wVar 0)) (wCons (wC (.ty "str")) wNil))))))) (wRet (wC (.bl false))) wNext) (wSeq2 (wPar 1 2 (wCons (wIxC 0 (wVar 0)) (wCons (wCB cLen (wCons (wVar 0) wNil)) wNil))) (wSeq2 (wIf (wTest (wOp (dEq) (wVar 1) (wC (.str "step")))) (wRet (wAndV (wOp (dEq) (wVar 2) (wC (.int 3))) (wCall q_is_step (wCons (wIxC 1 (wVar 0)) (wCons (wIxC 2 (wVar 0)) wNil))))) wNext) (wSeq2 (wIf (wTest (wOp (dEq) (wVar 1) (wC (.str "empty")))) (wRet (wOp (dEq) (wVar 2) (wC (.int 1)))) wNext) (wSeq2 (wIf (wTest (wOp (dIn false) (wVar 1) (wTup (wCons (wC (.str "then")) (wCons (wC (.str "or")) wNil))))) (wRet (wAndV (wOp (dEq) (wVar 2) (wC (.int 3))) (wAndV (wCall q_is_way (wCons (wIxC 1 (wVar 0)) wNil)) (wCall q_is_way (wCons (wIxC 2 (wVar 0)) wNil))))) wNext) (wSeq2 (wIf (wTest (wOp (dEq) (wVar 1) (wC (.str "again")))) (wRet (wAndV (wOp (dEq) (wVar 2) (wC (.int 2))) (wCall q_is_way (wCons (wIxC 1 (wVar 0)) wNil)))) wNext) (wRet (wAndV (wOp (dEq) (wVar 1) (wC (.str "many"))) (wAndV (wOp (dEq) (wVar 2) (wC (.int 4))) (wAndV (wCall q_is_times (wCons (wIxC 2 (wVar 0)) (wCons (wIxC 3 (wVar 0)) wNil))) (wCall q_is_way (wCons (wIxC 1 (wVar 0)) wNil))))))))))))
theorem dv_is_way {q_is_way q_is_times q_is_step : PSp} {k_is_way k_is_times k_is_step k : Nat} (T : Tx K mg) (F_is_way : FD P w K mg base "is_way" k_is_way q_is_way) (l_is_way : k_is_way ≤ k) (F_is_times : FD P w K mg base "is_times" k_is_times q_is_times) (l_is_times : k_is_times ≤ k) (F_is_step : FD P w K mg base "is_step" k_is_step q_is_step) (l_is_step : k_is_step ≤ k) : ∀ (f : Addr) (cdv : Value) (A : Around) (outer : List Env) (s : Shared) (H : Hp) (E : XK), Room k (A.deeper (PyProof.Rows.envOfC "is_way" (defScope s_is_way) s.heap.objs.size f cdv)) →
    DSs (cxOf CX0 P w K mg base n_is_way "is_way" (defScope s_is_way) f cdv A outer s H E).nox (defBody s_is_way) (rd_is_way q_is_way q_is_times q_is_step) := fun f cdv A outer s H E hr =>
  (ds_cons (ds_if (dt_w (dw_or (dt_not (dt_val (de_callB (ca_i tr_tup) (by rfl) T.z_isinstance (by decide +kernel) (da_cons (de_var 0) (da_cons (de_ty (by rfl) T.z_tuple (by decide +kernel)) da_nil))))) (dw_or (dt_cm (cm_eq hr.units) (de_callB (ca_len) (by rfl) T.z_len (by decide +kernel) (da_cons (de_var 0) da_nil)) de_int (nomark _)) (dw_or1 (dt_not (dt_val (de_callB (ca_i tr_str) (by rfl) T.z_isinstance (by decide +kernel) (da_cons (de_ixc 0 (de_var 0)) (da_cons (de_ty (by rfl) T.z_str (by decide +kernel)) da_nil))))))))) (ds_one (ds_ret de_bl)) ds_nil) (ds_cons (ds_par (i := 1) (j := 2) rfl sc_is_way.nd rfl rfl (by decide) rfl rfl (da_cons (de_ixc 0 (de_var 0)) (da_cons (de_callB (ca_len) (by rfl) T.z_len (by decide +kernel) (da_cons (de_var 0) da_nil)) da_nil))) (ds_cons (ds_if (dt_cm (cm_eq hr.units) (de_var 1) de_str (nomark _)) (ds_one (ds_ret (de_and (de_cm (cm_eq hr.units) (de_var 2) de_int (nomark _)) (de_one (de_call F_is_step (hr.mono l_is_step) (by rfl) (da_cons (de_ixc 1 (de_var 0)) (da_cons (de_ixc 2 (de_var 0)) da_nil))))))) ds_nil) (ds_cons (ds_if (dt_cm (cm_eq hr.units) (de_var 1) de_str (nomark _)) (ds_one (ds_ret (de_cm (cm_eq hr.units) (de_var 2) de_int (nomark _)))) ds_nil) (ds_cons (ds_if (dt_cm (cm_in hr.units) (de_var 1) (de_tup (da_cons de_str (da_cons de_str da_nil))) (by rfl)) (ds_one (ds_ret (de_and (de_cm (cm_eq hr.units) (de_var 2) de_int (nomark _)) (de_and (de_call F_is_way (hr.mono l_is_way) (by rfl) (da_cons (de_ixc 1 (de_var 0)) da_nil)) (de_one (de_call F_is_way (hr.mono l_is_way) (by rfl) (da_cons (de_ixc 2 (de_var 0)) da_nil))))))) ds_nil) (ds_cons (ds_if (dt_cm (cm_eq hr.units) (de_var 1) de_str (nomark _)) (ds_one (ds_ret (de_and (de_cm (cm_eq hr.units) (de_var 2) de_int (nomark _)) (de_one (de_call F_is_way (hr.mono l_is_way) (by rfl) (da_cons (de_ixc 1 (de_var 0)) da_nil)))))) ds_nil) (ds_one (ds_ret (de_and (de_cm (cm_eq hr.units) (de_var 1) de_str (nomark _)) (de_and (de_cm (cm_eq hr.units) (de_var 2) de_int (nomark _)) (de_and (de_call F_is_times (hr.mono l_is_times) (by rfl) (da_cons (de_ixc 2 (de_var 0)) (da_cons (de_ixc 3 (de_var 0)) da_nil))) (de_one (de_call F_is_way (hr.mono l_is_way) (by rfl) (da_cons (de_ixc 1 (de_var 0)) da_nil))))))))))))))
theorem fd_is_way {q_is_way q_is_times q_is_step : PSp} {k_is_way k_is_times k_is_step k : Nat} {p : PSp} (T : Tx K mg) (F_is_way : FD P w K mg base "is_way" k_is_way q_is_way) (l_is_way : k_is_way ≤ k) (F_is_times : FD P w K mg base "is_times" k_is_times q_is_times) (l_is_times : k_is_times ≤ k) (F_is_step : FD P w K mg base "is_step" k_is_step q_is_step) (l_is_step : k_is_step ≤ k) (len : ∀ ds w Q, p ds w Q → ds.length = 1) (hp : ∀ (d0 : PV) (w' : Wd) (Q : WQ), p [d0] w' Q → rd_is_way q_is_way q_is_times q_is_step { nx := fun _ w2 => Q .non w2, rt := Q } [some d0, none, none] w') : FD P w K mg base "is_way" (k + 1) p :=
  fd_of T.f_is_way sc_is_way (dv_is_way T F_is_way l_is_way F_is_times l_is_times F_is_step l_is_step) len fun ds w' Q h => match ds, len ds w' Q h, h with | [d0], _, h => hp d0 w' Q h
def rd__law_hand : WS :=
  (wSeq2 (wAsg (wC (.int 0)) (wName 2)) (wSeq2 (wIf (wTest (wOp (dLt) (wVar 1) (wCB cLen (wCons (wVar 0) wNil)))) (wAsg (wOp dIx (wVar 0) (wVar 1)) (wName 2)) wNext) (wSeq2 (wAsg (wC (.int 0)) (wName 3)) (wSeq2 (wFor (wSeq (wSl (wVar 0) wNo (wPart (wC (.int 63))))) (wName 4) (wAsg (wOp dMod (wOp dAdd (wOp dMul (wC (.int 31)) (wVar 3)) (wVar 4)) (wC (.int 2305843009213693951))) (wName 3))) (wRet (wMLst (wCons (wOp dMul (wCB cAbs (wCons (wVar 2) wNil)) (wCB cInt (wCons (wOp (dGe) (wCB cAbs (wCons (wVar 2) wNil)) (wOp dPow (wC (.int 10)) (wC (.int 18)))) wNil))) (wCons (wOp dAdd (wOp dAdd (wOp dMod (wOp dAdd (wVar 2) (wVar 3)) (wC (.int 2305843009213693951))) (wOp dMul (wC (.int 7919)) (wVar 1))) (wC (.int 3))) (wCons (wC (.int 0)) wNil)))))))))
theorem dv__law_hand {k : Nat} (T : Tx K mg) : ∀ (f : Addr) (cdv : Value) (A : Around) (outer : List Env) (s : Shared) (H : Hp) (E : XK), Room k (A.deeper (PyProof.Rows.envOfC "_law_hand" (defScope s__law_hand) s.heap.objs.size f cdv)) →
    DSs (cxOf CX0 P w K mg base n__law_hand "_law_hand" (defScope s__law_hand) f cdv A outer s H E).nox (defBody s__law_hand) (rd__law_hand) := fun f cdv A outer s H E hr =>
  (ds_cons (ds_asg de_int (dg_name (i := 2) sc__law_hand.nd rfl (by first | exact Or.inl rfl | exact Or.inr rfl))) (ds_cons (ds_if (dt_cm (cm_lt) (de_var 1) (de_callB (ca_len) (by rfl) T.z_len (by decide +kernel) (da_cons (de_var 0) da_nil)) (nomark _)) (ds_one (ds_asg (de_ix (de_var 0) (de_var 1)) (dg_name (i := 2) sc__law_hand.nd rfl (by first | exact Or.inl rfl | exact Or.inr rfl)))) ds_nil) (ds_cons (ds_asg de_int (dg_name (i := 3) sc__law_hand.nd rfl (by first | exact Or.inl rfl | exact Or.inr rfl))) (ds_cons (ds_for PassesOwn.never rfl (di_val (de_slice (de_var 0) do_none (do_some de_int))) (dg_name (i := 4) sc__law_hand.nd rfl (by first | exact Or.inl rfl | exact Or.inr rfl)) (ds_one (ds_asg (de_mod (de_add (de_mul de_int (de_var 3)) (de_var 4)) de_int) (dg_name (i := 3) sc__law_hand.nd rfl (by first | exact Or.inl rfl | exact Or.inr rfl))))) (ds_one (ds_ret (de_mlst (da_cons (de_mul (de_callB (ca_abs) (by rfl) T.z_abs (by decide +kernel) (da_cons (de_var 2) da_nil)) (de_callTy (ca_int) (by rfl) T.z_int (by decide +kernel) (da_cons (de_cm (cm_ge) (de_callB (ca_abs) (by rfl) T.z_abs (by decide +kernel) (da_cons (de_var 2) da_nil)) (de_pow de_int de_int) (nomark _)) da_nil))) (da_cons (de_add (de_add (de_mod (de_add (de_var 2) (de_var 3)) de_int) (de_mul de_int (de_var 1))) de_int) (da_cons de_int da_nil))))))))))
theorem fd__law_hand {k : Nat} {p : PSp} (T : Tx K mg) (len : ∀ ds w Q, p ds w Q → ds.length = 2) (hp : ∀ (d0 d1 : PV) (w' : Wd) (Q : WQ), p [d0, d1] w' Q → rd__law_hand { nx := fun _ w2 => Q .non w2, rt := Q } [some d0, some d1, none, none, none] w') : FD P w K mg base "_law_hand" (k + 1) p :=
  fd_of T.f__law_hand sc__law_hand (dv__law_hand T) len fun ds w' Q h => match ds, len ds w' Q h, h with | [d0, d1], _, h => hp d0 d1 w' Q h
def rd__law_take : WS :=
  (wSeq2 (wIf (wTest (wOp (dGt) (wIxC 0 (wVar 0)) (wC (.int 0)))) (wSeq2 (wAsg (wOp dMod (wIxC 0 (wVar 0)) (wVar 1)) (wName 2)) (wSeq2 (wAsg (wOp dFdiv (wIxC 0 (wVar 0)) (wVar 1)) (wgSubC 0 (wVar 0))) (wRet (wVar 2)))) wNext) (wSeq2 (wAsg (wOp dAdd (wIxC 2 (wVar 0)) (wC (.int 1))) (wgSubC 2 (wVar 0))) (wSeq2 (wAsg (wIxC 2 (wVar 0)) (wName 3)) (wSeq2 (wAsg (wOp dMod (wOp dMul (wIxC 1 (wVar 0)) (wOp dAdd (wOp dAdd (wC (.int 48271)) (wOp dMul (wOp dMul (wC (.int 2)) (wVar 3)) (wVar 3))) (wOp dMul (wC (.int 65537)) (wVar 3)))) (wC (.int 2305843009213693921))) (wName 4)) (wSeq2 (wAsg (wOp dMod (wOp dMul (wVar 4) (wOp dAdd (wOp dAdd (wOp dMod (wVar 4) (wC (.int 1000003))) (wOp dMul (wVar 3) (wC (.int 99991)))) (wC (.int 11)))) (wC (.int 2305843009213693907))) (wName 4)) (wRet (wOp dMod (wOp dAdd (wOp dFdiv (wVar 4) (wC (.int 97))) (wOp dFdiv (wVar 4) (wC (.int 1000033)))) (wVar 1))))))))
theorem dv__law_take {k : Nat} (T : Tx K mg) : ∀ (f : Addr) (cdv : Value) (A : Around) (outer : List Env) (s : Shared) (H : Hp) (E : XK), Room k (A.deeper (PyProof.Rows.envOfC "_law_take" (defScope s__law_take) s.heap.objs.size f cdv)) →
    DSs (cxOf CX0 P w K mg base n__law_take "_law_take" (defScope s__law_take) f cdv A outer s H E).nox (defBody s__law_take) (rd__law_take) := fun f cdv A outer s H E hr =>
  (ds_cons (ds_if (dt_cm (cm_gt) (de_ixc 0 (de_var 0)) de_int (nomark _)) (ds_cons (ds_asg (de_mod (de_ixc 0 (de_var 0)) (de_var 1)) (dg_name (i := 2) sc__law_take.nd rfl (by first | exact Or.inl rfl | exact Or.inr rfl))) (ds_cons (ds_asg (de_fdiv (de_ixc 0 (de_var 0)) (de_var 1)) (dg_subc 0 (de_var 0))) (ds_one (ds_ret (de_var 2))))) ds_nil) (ds_cons (ds_asg (de_add (de_ixc 2 (de_var 0)) de_int) (dg_subc 2 (de_var 0))) (ds_cons (ds_asg (de_ixc 2 (de_var 0)) (dg_name (i := 3) sc__law_take.nd rfl (by first | exact Or.inl rfl | exact Or.inr rfl))) (ds_cons (ds_asg (de_mod (de_mul (de_ixc 1 (de_var 0)) (de_add (de_add de_int (de_mul (de_mul de_int (de_var 3)) (de_var 3))) (de_mul de_int (de_var 3)))) de_int) (dg_name (i := 4) sc__law_take.nd rfl (by first | exact Or.inl rfl | exact Or.inr rfl))) (ds_cons (ds_asg (de_mod (de_mul (de_var 4) (de_add (de_add (de_mod (de_var 4) de_int) (de_mul (de_var 3) de_int)) de_int)) de_int) (dg_name (i := 4) sc__law_take.nd rfl (by first | exact Or.inl rfl | exact Or.inr rfl))) (ds_one (ds_ret (de_mod (de_add (de_fdiv (de_var 4) de_int) (de_fdiv (de_var 4) de_int)) (de_var 1)))))))))
theorem fd__law_take {k : Nat} {p : PSp} (T : Tx K mg) (len : ∀ ds w Q, p ds w Q → ds.length = 2) (hp : ∀ (d0 d1 : PV) (w' : Wd) (Q : WQ), p [d0, d1] w' Q → rd__law_take { nx := fun _ w2 => Q .non w2, rt := Q } [some d0, some d1, none, none, none] w') : FD P w K mg base "_law_take" (k + 1) p :=
  fd_of T.f__law_take sc__law_take (dv__law_take T) len fun ds w' Q h => match ds, len ds w' Q h, h with | [d0, d1], _, h => hp d0 d1 w' Q h
def rd__law_kinds (q__law_take : PSp) : WS :=
  (wSeq2 (wAsg (wLst (wCons (wC (.str "knows")) (wCons (wC (.str "a")) (wCons (wC (.str "aa")) (wCons (wC (.str "zebra")) (wCons (wC (.str "empty")) (wCons (wC (.str "quartzes")) (wCons (wC (.str "again")) (wCons (wC (.str "likes")) wNil))))))))) (wName 1)) (wSeq2 (wAsg (wCall q__law_take (wCons (wVar 0) (wCons (wC (.int 8)) wNil))) (wName 2)) (wSeq2 (wAsg (wOp dAdd (wC (.int 1)) (wCall q__law_take (wCons (wVar 0) (wCons (wC (.int 3)) wNil)))) (wName 3)) (wSeq2 (wIf (wTest (wOp (dEq) (wCall q__law_take (wCons (wVar 0) (wCons (wC (.int 8)) wNil))) (wC (.int 0)))) (wAsg (wOp dAdd (wC (.int 7)) (wCall q__law_take (wCons (wVar 0) (wCons (wC (.int 2)) wNil)))) (wName 3)) wNext) (wRet (wSl (wOp dAdd (wSl (wVar 1) (wPart (wVar 2)) wNo) (wSl (wVar 1) wNo (wPart (wVar 2)))) wNo (wPart (wVar 3))))))))
theorem dv__law_kinds {q__law_take : PSp} {k__law_take k : Nat} (T : Tx K mg) (F__law_take : FD P w K mg base "_law_take" k__law_take q__law_take) (l__law_take : k__law_take ≤ k) : ∀ (f : Addr) (cdv : Value) (A : Around) (outer : List Env) (s : Shared) (H : Hp) (E : XK), Room k (A.deeper (PyProof.Rows.envOfC "_law_kinds" (defScope s__law_kinds) s.heap.objs.size f cdv)) →
    DSs (cxOf CX0 P w K mg base n__law_kinds "_law_kinds" (defScope s__law_kinds) f cdv A outer s H E).nox (defBody s__law_kinds) (rd__law_kinds q__law_take) := fun f cdv A outer s H E hr =>
  (ds_cons (ds_asg (de_lst (da_cons de_str (da_cons de_str (da_cons de_str (da_cons de_str (da_cons de_str (da_cons de_str (da_cons de_str (da_cons de_str da_nil))))))))) (dg_name (i := 1) sc__law_kinds.nd rfl (by first | exact Or.inl rfl | exact Or.inr rfl))) (ds_cons (ds_asg (de_call F__law_take (hr.mono l__law_take) (by rfl) (da_cons (de_var 0) (da_cons de_int da_nil))) (dg_name (i := 2) sc__law_kinds.nd rfl (by first | exact Or.inl rfl | exact Or.inr rfl))) (ds_cons (ds_asg (de_add de_int (de_call F__law_take (hr.mono l__law_take) (by rfl) (da_cons (de_var 0) (da_cons de_int da_nil)))) (dg_name (i := 3) sc__law_kinds.nd rfl (by first | exact Or.inl rfl | exact Or.inr rfl))) (ds_cons (ds_if (dt_cm (cm_eq hr.units) (de_call F__law_take (hr.mono l__law_take) (by rfl) (da_cons (de_var 0) (da_cons de_int da_nil))) de_int (nomark _)) (ds_one (ds_asg (de_add de_int (de_call F__law_take (hr.mono l__law_take) (by rfl) (da_cons (de_var 0) (da_cons de_int da_nil)))) (dg_name (i := 3) sc__law_kinds.nd rfl (by first | exact Or.inl rfl | exact Or.inr rfl)))) ds_nil) (ds_one (ds_ret (de_slice (de_add (de_slice (de_var 1) (do_some (de_var 2)) do_none) (de_slice (de_var 1) do_none (do_some (de_var 2)))) do_none (do_some (de_var 3)))))))))
theorem fd__law_kinds {q__law_take : PSp} {k__law_take k : Nat} {p : PSp} (T : Tx K mg) (F__law_take : FD P w K mg base "_law_take" k__law_take q__law_take) (l__law_take : k__law_take ≤ k) (len : ∀ ds w Q, p ds w Q → ds.length = 1) (hp : ∀ (d0 : PV) (w' : Wd) (Q : WQ), p [d0] w' Q → rd__law_kinds q__law_take { nx := fun _ w2 => Q .non w2, rt := Q } [some d0, none, none, none] w') : FD P w K mg base "_law_kinds" (k + 1) p :=
  fd_of T.f__law_kinds sc__law_kinds (dv__law_kinds T F__law_take l__law_take) len fun ds w' Q h => match ds, len ds w' Q h, h with | [d0], _, h => hp d0 w' Q h
def rd__law_leaf (q__law_take : PSp) : WS :=
  (wSeq2 (wAsg (wCall q__law_take (wCons (wVar 0) (wCons (wC (.int 9)) wNil))) (wName 2)) (wSeq2 (wIf (wTest (wOp (dEq) (wVar 2) (wC (.int 0)))) (wRet (wTup (wCons (wC (.str "empty")) wNil))) wNext) (wSeq2 (wAsg (wOp dIx (wVar 1) (wCall q__law_take (wCons (wVar 0) (wCons (wCB cLen (wCons (wVar 1) wNil)) wNil)))) (wName 3)) (wSeq2 (wIf (wTest (wOp (dEq) (wVar 2) (wC (.int 1)))) (wAsg (wC .non) (wName 3)) wNext) (wRet (wTup (wCons (wC (.str "step")) (wCons (wVar 3) (wCons (wOp dIx (wTup (wCons (wC (.str "forth")) (wCons (wC (.str "back")) (wCons (wC (.str "either")) (wCons (wC (.str "forth")) wNil))))) (wCall q__law_take (wCons (wVar 0) (wCons (wC (.int 4)) wNil)))) wNil)))))))))
theorem dv__law_leaf {q__law_take : PSp} {k__law_take k : Nat} (T : Tx K mg) (F__law_take : FD P w K mg base "_law_take" k__law_take q__law_take) (l__law_take : k__law_take ≤ k) : ∀ (f : Addr) (cdv : Value) (A : Around) (outer : List Env) (s : Shared) (H : Hp) (E : XK), Room k (A.deeper (PyProof.Rows.envOfC "_law_leaf" (defScope s__law_leaf) s.heap.objs.size f cdv)) →
    DSs (cxOf CX0 P w K mg base n__law_leaf "_law_leaf" (defScope s__law_leaf) f cdv A outer s H E).nox (defBody s__law_leaf) (rd__law_leaf q__law_take) := fun f cdv A outer s H E hr =>
  (ds_cons (ds_asg (de_call F__law_take (hr.mono l__law_take) (by rfl) (da_cons (de_var 0) (da_cons de_int da_nil))) (dg_name (i := 2) sc__law_leaf.nd rfl (by first | exact Or.inl rfl | exact Or.inr rfl))) (ds_cons (ds_if (dt_cm (cm_eq hr.units) (de_var 2) de_int (nomark _)) (ds_one (ds_ret (de_tup (da_cons de_str da_nil)))) ds_nil) (ds_cons (ds_asg (de_ix (de_var 1) (de_call F__law_take (hr.mono l__law_take) (by rfl) (da_cons (de_var 0) (da_cons (de_callB (ca_len) (by rfl) T.z_len (by decide +kernel) (da_cons (de_var 1) da_nil)) da_nil)))) (dg_name (i := 3) sc__law_leaf.nd rfl (by first | exact Or.inl rfl | exact Or.inr rfl))) (ds_cons (ds_if (dt_cm (cm_eq hr.units) (de_var 2) de_int (nomark _)) (ds_one (ds_asg de_non (dg_name (i := 3) sc__law_leaf.nd rfl (by first | exact Or.inl rfl | exact Or.inr rfl)))) ds_nil) (ds_one (ds_ret (de_tup (da_cons de_str (da_cons (de_var 3) (da_cons (de_ix (de_tup (da_cons de_str (da_cons de_str (da_cons de_str (da_cons de_str da_nil))))) (de_call F__law_take (hr.mono l__law_take) (by rfl) (da_cons (de_var 0) (da_cons de_int da_nil)))) da_nil))))))))))
theorem fd__law_leaf {q__law_take : PSp} {k__law_take k : Nat} {p : PSp} (T : Tx K mg) (F__law_take : FD P w K mg base "_law_take" k__law_take q__law_take) (l__law_take : k__law_take ≤ k) (len : ∀ ds w Q, p ds w Q → ds.length = 2) (hp : ∀ (d0 d1 : PV) (w' : Wd) (Q : WQ), p [d0, d1] w' Q → rd__law_leaf q__law_take { nx := fun _ w2 => Q .non w2, rt := Q } [some d0, some d1, none, none] w') : FD P w K mg base "_law_leaf" (k + 1) p :=
  fd_of T.f__law_leaf sc__law_leaf (dv__law_leaf T F__law_take l__law_take) len fun ds w' Q h => match ds, len ds w' Q h, h with | [d0, d1], _, h => hp d0 d1 w' Q h
def rd__law_way (q__law_way : PSp) (q__law_take : PSp) (q__law_leaf : PSp) : WS :=
  (wSeq2 (wAsg (wCall q__law_take (wCons (wVar 0) (wCons (wC (.int 9)) wNil))) (wName 4)) (wSeq2 (wIf (wOrT (wTest (wOp (dLt) (wVar 2) (wC (.int 2)))) (wOrT (wTest (wOp (dLt) (wVar 4) (wC (.int 2)))) (wAndT (wTest (wOp (dLt) (wVar 2) (wC (.int 3)))) (wTest (wOp (dEq) (wVar 3) (wC (.int 0))))))) (wRet (wCall q__law_leaf (wCons (wVar 0) (wCons (wVar 1) wNil)))) wNext) (wSeq2 (wIf (wAndT (wOrT (wTest (wOp (dLt) (wVar 4) (wC (.int 4)))) (wTest (wOp (dLt) (wVar 2) (wC (.int 3))))) (wTest (wOp (dGt) (wVar 3) (wC (.int 0))))) (wRet (wTup (wCons (wC (.str "again")) (wCons (wCall q__law_way (wCons (wVar 0) (wCons (wVar 1) (wCons (wOp dSub (wVar 2) (wC (.int 1))) (wCons (wOp dSub (wVar 3) (wC (.int 1))) wNil))))) wNil)))) wNext) (wSeq2 (wIf (wAndT (wTest (wOp (dEq) (wVar 4) (wC (.int 4)))) (wTest (wOp (dGt) (wVar 3) (wC (.int 0))))) (wSeq2 (wAsg (wCall q__law_take (wCons (wVar 0) (wCons (wC (.int 3)) wNil))) (wName 5)) (wSeq2 (wAsg (wOp dAdd (wVar 5) (wCall q__law_take (wCons (wVar 0) (wCons (wOp dIx (wTup (wCons (wC (.int 2)) (wCons (wC (.int 2)) (wCons (wC (.int 4)) wNil)))) (wCall q__law_take (wCons (wVar 0) (wCons (wC (.int 3)) wNil)))) wNil)))) (wName 6)) (wRet (wTup (wCons (wC (.str "many")) (wCons (wCall q__law_way (wCons (wVar 0) (wCons (wVar 1) (wCons (wOp dSub (wVar 2) (wC (.int 1))) (wCons (wOp dSub (wVar 3) (wC (.int 1))) wNil))))) (wCons (wVar 5) (wCons (wVar 6) wNil)))))))) wNext) (wSeq2 (wAsg (wOp dAdd (wC (.int 1)) (wCall q__law_take (wCons (wVar 0) (wCons (wOp dSub (wVar 2) (wC (.int 2))) wNil)))) (wName 7)) (wSeq2 (wAsg (wCall q__law_way (wCons (wVar 0) (wCons (wVar 1) (wCons (wVar 7) (wCons (wVar 3) wNil))))) (wName 8)) (wRet (wTup (wCons (wOp dIx (wTup (wCons (wC (.str "then")) (wCons (wC (.str "or")) wNil))) (wOp dMod (wVar 4) (wC (.int 2)))) (wCons (wVar 8) (wCons (wCall q__law_way (wCons (wVar 0) (wCons (wVar 1) (wCons (wOp dSub (wOp dSub (wVar 2) (wC (.int 1))) (wVar 7)) (wCons (wVar 3) wNil))))) wNil)))))))))))
theorem dv__law_way {q__law_way q__law_take q__law_leaf : PSp} {k__law_way k__law_take k__law_leaf k : Nat} (T : Tx K mg) (F__law_way : FD P w K mg base "_law_way" k__law_way q__law_way) (l__law_way : k__law_way ≤ k) (F__law_take : FD P w K mg base "_law_take" k__law_take q__law_take) (l__law_take : k__law_take ≤ k) (F__law_leaf : FD P w K mg base "_law_leaf" k__law_leaf q__law_leaf) (l__law_leaf : k__law_leaf ≤ k) : ∀ (f : Addr) (cdv : Value) (A : Around) (outer : List Env) (s : Shared) (H : Hp) (E : XK), Room k (A.deeper (PyProof.Rows.envOfC "_law_way" (defScope s__law_way) s.heap.objs.size f cdv)) →
    DSs (cxOf CX0 P w K mg base n__law_way "_law_way" (defScope s__law_way) f cdv A outer s H E).nox (defBody s__law_way) (rd__law_way q__law_way q__law_take q__law_leaf) := fun f cdv A outer s H E hr =>
  (ds_cons (ds_asg (de_call F__law_take (hr.mono l__law_take) (by rfl) (da_cons (de_var 0) (da_cons de_int da_nil))) (dg_name (i := 4) sc__law_way.nd rfl (by first | exact Or.inl rfl | exact Or.inr rfl))) (ds_cons (ds_if (dt_w (dw_or (dt_cm (cm_lt) (de_var 2) de_int (nomark _)) (dw_or (dt_cm (cm_lt) (de_var 4) de_int (nomark _)) (dw_or1 (dt_w (dw_and (dt_cm (cm_lt) (de_var 2) de_int (nomark _)) (dw_and1 (dt_cm (cm_eq hr.units) (de_var 3) de_int (nomark _))))))))) (ds_one (ds_ret (de_call F__law_leaf (hr.mono l__law_leaf) (by rfl) (da_cons (de_var 0) (da_cons (de_var 1) da_nil))))) ds_nil) (ds_cons (ds_if (dt_w (dw_and (dt_w (dw_or (dt_cm (cm_lt) (de_var 4) de_int (nomark _)) (dw_or1 (dt_cm (cm_lt) (de_var 2) de_int (nomark _))))) (dw_and1 (dt_cm (cm_gt) (de_var 3) de_int (nomark _))))) (ds_one (ds_ret (de_tup (da_cons de_str (da_cons (de_call F__law_way (hr.mono l__law_way) (by rfl) (da_cons (de_var 0) (da_cons (de_var 1) (da_cons (de_sub (de_var 2) de_int) (da_cons (de_sub (de_var 3) de_int) da_nil))))) da_nil))))) ds_nil) (ds_cons (ds_if (dt_w (dw_and (dt_cm (cm_eq hr.units) (de_var 4) de_int (nomark _)) (dw_and1 (dt_cm (cm_gt) (de_var 3) de_int (nomark _))))) (ds_cons (ds_asg (de_call F__law_take (hr.mono l__law_take) (by rfl) (da_cons (de_var 0) (da_cons de_int da_nil))) (dg_name (i := 5) sc__law_way.nd rfl (by first | exact Or.inl rfl | exact Or.inr rfl))) (ds_cons (ds_asg (de_add (de_var 5) (de_call F__law_take (hr.mono l__law_take) (by rfl) (da_cons (de_var 0) (da_cons (de_ix (de_tup (da_cons de_int (da_cons de_int (da_cons de_int da_nil)))) (de_call F__law_take (hr.mono l__law_take) (by rfl) (da_cons (de_var 0) (da_cons de_int da_nil)))) da_nil)))) (dg_name (i := 6) sc__law_way.nd rfl (by first | exact Or.inl rfl | exact Or.inr rfl))) (ds_one (ds_ret (de_tup (da_cons de_str (da_cons (de_call F__law_way (hr.mono l__law_way) (by rfl) (da_cons (de_var 0) (da_cons (de_var 1) (da_cons (de_sub (de_var 2) de_int) (da_cons (de_sub (de_var 3) de_int) da_nil))))) (da_cons (de_var 5) (da_cons (de_var 6) da_nil))))))))) ds_nil) (ds_cons (ds_asg (de_add de_int (de_call F__law_take (hr.mono l__law_take) (by rfl) (da_cons (de_var 0) (da_cons (de_sub (de_var 2) de_int) da_nil)))) (dg_name (i := 7) sc__law_way.nd rfl (by first | exact Or.inl rfl | exact Or.inr rfl))) (ds_cons (ds_asg (de_call F__law_way (hr.mono l__law_way) (by rfl) (da_cons (de_var 0) (da_cons (de_var 1) (da_cons (de_var 7) (da_cons (de_var 3) da_nil))))) (dg_name (i := 8) sc__law_way.nd rfl (by first | exact Or.inl rfl | exact Or.inr rfl))) (ds_one (ds_ret (de_tup (da_cons (de_ix (de_tup (da_cons de_str (da_cons de_str da_nil))) (de_mod (de_var 4) de_int)) (da_cons (de_var 8) (da_cons (de_call F__law_way (hr.mono l__law_way) (by rfl) (da_cons (de_var 0) (da_cons (de_var 1) (da_cons (de_sub (de_sub (de_var 2) de_int) (de_var 7)) (da_cons (de_var 3) da_nil))))) da_nil))))))))))))
theorem fd__law_way {q__law_way q__law_take q__law_leaf : PSp} {k__law_way k__law_take k__law_leaf k : Nat} {p : PSp} (T : Tx K mg) (F__law_way : FD P w K mg base "_law_way" k__law_way q__law_way) (l__law_way : k__law_way ≤ k) (F__law_take : FD P w K mg base "_law_take" k__law_take q__law_take) (l__law_take : k__law_take ≤ k) (F__law_leaf : FD P w K mg base "_law_leaf" k__law_leaf q__law_leaf) (l__law_leaf : k__law_leaf ≤ k) (len : ∀ ds w Q, p ds w Q → ds.length = 4) (hp : ∀ (d0 d1 d2 d3 : PV) (w' : Wd) (Q : WQ), p [d0, d1, d2, d3] w' Q → rd__law_way q__law_way q__law_take q__law_leaf { nx := fun _ w2 => Q .non w2, rt := Q } [some d0, some d1, some d2, some d3, none, none, none, none, none] w') : FD P w K mg base "_law_way" (k + 1) p :=
  fd_of T.f__law_way sc__law_way (dv__law_way T F__law_way l__law_way F__law_take l__law_take F__law_leaf l__law_leaf) len fun ds w' Q h => match ds, len ds w' Q h, h with | [d0, d1, d2, d3], _, h => hp d0 d1 d2 d3 w' Q h
def rd__law_is_name : WS :=
  (wSeq2 (wAsg (wC (.str "abcdefghijklmnopqrstuvwxyz")) (wName 1)) (wRet (wAndV (wCB (cI "str" isStrP) (wCons (wVar 0) (wCons (wC (.ty "str")) wNil))) (wAndV (wChain (dLt) (dLt) (wC (.int 0)) (wCB cLen (wCons (wVar 0) wNil)) (wC (.int 9))) (wCB cAll (wCons (wLc (wSeq (wVar 0)) (wName 2) wYes (wOp (dIn false) (wVar 2) (wVar 1)) [2]) wNil))))))
theorem dv__law_is_name {k : Nat} (T : Tx K mg) : ∀ (f : Addr) (cdv : Value) (A : Around) (outer : List Env) (s : Shared) (H : Hp) (E : XK), Room k (A.deeper (PyProof.Rows.envOfC "_law_is_name" (defScope s__law_is_name) s.heap.objs.size f cdv)) →
    DSs (cxOf CX0 P w K mg base n__law_is_name "_law_is_name" (defScope s__law_is_name) f cdv A outer s H E).nox (defBody s__law_is_name) (rd__law_is_name) := fun f cdv A outer s H E hr =>
  (ds_cons (ds_asg de_str (dg_name (i := 1) sc__law_is_name.nd rfl (by first | exact Or.inl rfl | exact Or.inr rfl))) (ds_one (ds_ret (de_and (de_callB (ca_i tr_str) (by rfl) T.z_isinstance (by decide +kernel) (da_cons (de_var 0) (da_cons (de_ty (by rfl) T.z_str (by decide +kernel)) da_nil))) (de_and (de_chain (cm_lt) (cm_lt) de_int (de_callB (ca_len) (by rfl) T.z_len (by decide +kernel) (da_cons (de_var 0) da_nil)) de_int) (de_one (de_callB (ca_all rfl) (by rfl) T.z_all (by decide +kernel) (da_cons (de_lc (own := [("_law_sign", 2)]) rfl sc__law_is_name.nd (di_val (de_var 0)) (blkOk_by (N := n__law_is_name) (sc := defScope s__law_is_name) (by decide +kernel)) (fun _ _ _ _ _ => (dgw_name (i := 2) sc__law_is_name.nd rfl (by first | exact Or.inl rfl | exact Or.inr rfl) (by decide))) (fun _ _ _ _ _ => dts_nil) (fun _ _ _ _ _ => (de_cm (cm_in hr.units) (de_var 2) (de_var 1) (by rfl)))) da_nil))))))))
theorem fd__law_is_name {k : Nat} {p : PSp} (T : Tx K mg) (len : ∀ ds w Q, p ds w Q → ds.length = 1) (hp : ∀ (d0 : PV) (w' : Wd) (Q : WQ), p [d0] w' Q → rd__law_is_name { nx := fun _ w2 => Q .non w2, rt := Q } [some d0, none, none] w') : FD P w K mg base "_law_is_name" (k + 1) p :=
  fd_of T.f__law_is_name sc__law_is_name (dv__law_is_name T) len fun ds w' Q h => match ds, len ds w' Q h, h with | [d0], _, h => hp d0 w' Q h
def rd__law_is_times : WS :=
  (wRet (wAndV (wCB (cI "int" isIntP) (wCons (wVar 0) (wCons (wC (.ty "int")) wNil))) (wAndV (wNotV (wCB (cI "bool" isBoolP) (wCons (wVar 0) (wCons (wC (.ty "bool")) wNil)))) (wChain (dLe) (dLe) (wC (.int 0)) (wVar 0) (wC (.int 6))))))
theorem dv__law_is_times {k : Nat} (T : Tx K mg) : ∀ (f : Addr) (cdv : Value) (A : Around) (outer : List Env) (s : Shared) (H : Hp) (E : XK), Room k (A.deeper (PyProof.Rows.envOfC "_law_is_times" (defScope s__law_is_times) s.heap.objs.size f cdv)) →
    DSs (cxOf CX0 P w K mg base n__law_is_times "_law_is_times" (defScope s__law_is_times) f cdv A outer s H E).nox (defBody s__law_is_times) (rd__law_is_times) := fun f cdv A outer s H E hr =>
  (ds_one (ds_ret (de_and (de_callB (ca_i tr_int) (by rfl) T.z_isinstance (by decide +kernel) (da_cons (de_var 0) (da_cons (de_ty (by rfl) T.z_int (by decide +kernel)) da_nil))) (de_and (de_not (de_callB (ca_i tr_bool) (by rfl) T.z_isinstance (by decide +kernel) (da_cons (de_var 0) (da_cons (de_ty (by rfl) T.z_bool (by decide +kernel)) da_nil)))) (de_one (de_chain (cm_le) (cm_le) de_int (de_var 0) de_int))))))
theorem fd__law_is_times {k : Nat} {p : PSp} (T : Tx K mg) (len : ∀ ds w Q, p ds w Q → ds.length = 1) (hp : ∀ (d0 : PV) (w' : Wd) (Q : WQ), p [d0] w' Q → rd__law_is_times { nx := fun _ w2 => Q .non w2, rt := Q } [some d0] w') : FD P w K mg base "_law_is_times" (k + 1) p :=
  fd_of T.f__law_is_times sc__law_is_times (dv__law_is_times T) len fun ds w' Q h => match ds, len ds w' Q h, h with | [d0], _, h => hp d0 w' Q h
def rd__law_due (q__law_due : PSp) (q__law_is_times : PSp) (q__law_is_name : PSp) : WS :=
  (wSeq2 (wIf (wOrT (wNotT (wTest (wCB (cI "tuple" isTupP) (wCons (wVar 0) (wCons (wC (.ty "tuple")) wNil))))) (wOrT (wTest (wOp (dEq) (wCB cLen (wCons (wVar 0) wNil)) (wC (.int 0)))) (wNotT (wTest (wCB (cI "str" isStrP) (wCons (wIxC 0 (wVar 0)) (wCons (wC (.ty "str")) wNil))))))) (wRet (wC (.bl false))) wNext) (wSeq2 (wIf (wAndT (wTest (wOp (dEq) (wIxC 0 (wVar 0)) (wC (.str "step")))) (wTest (wOp (dEq) (wCB cLen (wCons (wVar 0) wNil)) (wC (.int 3))))) (wSeq2 (wAsg (wOrV (wOp (dIs false) (wIxC 1 (wVar 0)) (wC .non)) (wCall q__law_is_name (wCons (wIxC 1 (wVar 0)) wNil))) (wName 1)) (wRet (wAndV (wVar 1) (wAndV (wCB (cI "str" isStrP) (wCons (wIxC 2 (wVar 0)) (wCons (wC (.ty "str")) wNil))) (wOp (dIn false) (wIxC 2 (wVar 0)) (wTup (wCons (wC (.str "forth")) (wCons (wC (.str "back")) (wCons (wC (.str "either")) wNil))))))))) wNext) (wSeq2 (wIf (wAndT (wTest (wOp (dEq) (wIxC 0 (wVar 0)) (wC (.str "many")))) (wTest (wOp (dEq) (wCB cLen (wCons (wVar 0) wNil)) (wC (.int 4))))) (wSeq2 (wIf (wOrT (wNotT (wTest (wCall q__law_is_times (wCons (wIxC 2 (wVar 0)) wNil)))) (wNotT (wTest (wCall q__law_is_times (wCons (wIxC 3 (wVar 0)) wNil))))) (wRet (wC (.bl false))) wNext) (wRet (wAndV (wOp (dLe) (wIxC 2 (wVar 0)) (wIxC 3 (wVar 0))) (wCall q__law_due (wCons (wIxC 1 (wVar 0)) wNil))))) wNext) (wSeq2 (wAsg (wGetC [(.inr "empty", .int 1), (.inr "then", .int 3), (.inr "or", .int 3), (.inr "again", .int 2)] (wIxC 0 (wVar 0)) (wC (.int 0))) (wName 2)) (wRet (wAndV (wOp (dEq) (wCB cLen (wCons (wVar 0) wNil)) (wVar 2)) (wCB cAll (wCons (wLc (wSeq (wSl (wVar 0) (wPart (wC (.int 1))) wNo)) (wName 3) wYes (wCall q__law_due (wCons (wVar 3) wNil)) [3]) wNil))))))))
theorem dv__law_due {q__law_due q__law_is_times q__law_is_name : PSp} {k__law_due k__law_is_times k__law_is_name k : Nat} (T : Tx K mg) (F__law_due : FD P w K mg base "_law_due" k__law_due q__law_due) (l__law_due : k__law_due ≤ k) (F__law_is_times : FD P w K mg base "_law_is_times" k__law_is_times q__law_is_times) (l__law_is_times : k__law_is_times ≤ k) (F__law_is_name : FD P w K mg base "_law_is_name" k__law_is_name q__law_is_name) (l__law_is_name : k__law_is_name ≤ k) : ∀ (f : Addr) (cdv : Value) (A : Around) (outer : List Env) (s : Shared) (H : Hp) (E : XK), Room k (A.deeper (PyProof.Rows.envOfC "_law_due" (defScope s__law_due) s.heap.objs.size f cdv)) →
    DSs (cxOf CX0 P w K mg base n__law_due "_law_due" (defScope s__law_due) f cdv A outer s H E).nox (defBody s__law_due) (rd__law_due q__law_due q__law_is_times q__law_is_name) := fun f cdv A outer s H E hr =>
  (ds_cons (ds_if (dt_w (dw_or (dt_not (dt_val (de_callB (ca_i tr_tup) (by rfl) T.z_isinstance (by decide +kernel) (da_cons (de_var 0) (da_cons (de_ty (by rfl) T.z_tuple (by decide +kernel)) da_nil))))) (dw_or (dt_cm (cm_eq hr.units) (de_callB (ca_len) (by rfl) T.z_len (by decide +kernel) (da_cons (de_var 0) da_nil)) de_int (nomark _)) (dw_or1 (dt_not (dt_val (de_callB (ca_i tr_str) (by rfl) T.z_isinstance (by decide +kernel) (da_cons (de_ixc 0 (de_var 0)) (da_cons (de_ty (by rfl) T.z_str (by decide +kernel)) da_nil))))))))) (ds_one (ds_ret de_bl)) ds_nil) (ds_cons (ds_if (dt_w (dw_and (dt_cm (cm_eq hr.units) (de_ixc 0 (de_var 0)) de_str (nomark _)) (dw_and1 (dt_cm (cm_eq hr.units) (de_callB (ca_len) (by rfl) T.z_len (by decide +kernel) (da_cons (de_var 0) da_nil)) de_int (nomark _))))) (ds_cons (ds_asg (de_or (de_cm (cm_is) (de_ixc 1 (de_var 0)) de_non (nomark _)) (de_one (de_call F__law_is_name (hr.mono l__law_is_name) (by rfl) (da_cons (de_ixc 1 (de_var 0)) da_nil)))) (dg_name (i := 1) sc__law_due.nd rfl (by first | exact Or.inl rfl | exact Or.inr rfl))) (ds_one (ds_ret (de_and (de_var 1) (de_and (de_callB (ca_i tr_str) (by rfl) T.z_isinstance (by decide +kernel) (da_cons (de_ixc 2 (de_var 0)) (da_cons (de_ty (by rfl) T.z_str (by decide +kernel)) da_nil))) (de_one (de_cm (cm_in hr.units) (de_ixc 2 (de_var 0)) (de_tup (da_cons de_str (da_cons de_str (da_cons de_str da_nil)))) (by rfl)))))))) ds_nil) (ds_cons (ds_if (dt_w (dw_and (dt_cm (cm_eq hr.units) (de_ixc 0 (de_var 0)) de_str (nomark _)) (dw_and1 (dt_cm (cm_eq hr.units) (de_callB (ca_len) (by rfl) T.z_len (by decide +kernel) (da_cons (de_var 0) da_nil)) de_int (nomark _))))) (ds_cons (ds_if (dt_w (dw_or (dt_not (dt_val (de_call F__law_is_times (hr.mono l__law_is_times) (by rfl) (da_cons (de_ixc 2 (de_var 0)) da_nil)))) (dw_or1 (dt_not (dt_val (de_call F__law_is_times (hr.mono l__law_is_times) (by rfl) (da_cons (de_ixc 3 (de_var 0)) da_nil))))))) (ds_one (ds_ret de_bl)) ds_nil) (ds_one (ds_ret (de_and (de_cm (cm_le) (de_ixc 2 (de_var 0)) (de_ixc 3 (de_var 0)) (nomark _)) (de_one (de_call F__law_due (hr.mono l__law_due) (by rfl) (da_cons (de_ixc 1 (de_var 0)) da_nil))))))) ds_nil) (ds_cons (ds_asg (de_getC hr.units (DisC.cons (kk := .inr "empty") (d := .int 1) pe_str pe_int rfl (DisC.cons (kk := .inr "then") (d := .int 3) pe_str pe_int rfl (DisC.cons (kk := .inr "or") (d := .int 3) pe_str pe_int rfl (DisC.cons (kk := .inr "again") (d := .int 2) pe_str pe_int rfl DisC.nil)))) (de_ixc 0 (de_var 0)) de_int) (dg_name (i := 2) sc__law_due.nd rfl (by first | exact Or.inl rfl | exact Or.inr rfl))) (ds_one (ds_ret (de_and (de_cm (cm_eq hr.units) (de_callB (ca_len) (by rfl) T.z_len (by decide +kernel) (da_cons (de_var 0) da_nil)) (de_var 2) (nomark _)) (de_one (de_callB (ca_all rfl) (by rfl) T.z_all (by decide +kernel) (da_cons (de_lc (own := [("_law_part", 3)]) rfl sc__law_due.nd (di_val (de_slice (de_var 0) (do_some de_int) do_none)) (blkOk_by (N := n__law_due) (sc := defScope s__law_due) (by decide +kernel)) (fun _ _ _ _ _ => (dgw_name (i := 3) sc__law_due.nd rfl (by first | exact Or.inl rfl | exact Or.inr rfl) (by decide))) (fun _ _ _ _ _ => dts_nil) (fun _ _ _ _ _ => (de_call F__law_due (hr.mono l__law_due) (by rfl) (da_cons (de_var 3) da_nil)))) da_nil))))))))))
theorem fd__law_due {q__law_due q__law_is_times q__law_is_name : PSp} {k__law_due k__law_is_times k__law_is_name k : Nat} {p : PSp} (T : Tx K mg) (F__law_due : FD P w K mg base "_law_due" k__law_due q__law_due) (l__law_due : k__law_due ≤ k) (F__law_is_times : FD P w K mg base "_law_is_times" k__law_is_times q__law_is_times) (l__law_is_times : k__law_is_times ≤ k) (F__law_is_name : FD P w K mg base "_law_is_name" k__law_is_name q__law_is_name) (l__law_is_name : k__law_is_name ≤ k) (len : ∀ ds w Q, p ds w Q → ds.length = 1) (hp : ∀ (d0 : PV) (w' : Wd) (Q : WQ), p [d0] w' Q → rd__law_due q__law_due q__law_is_times q__law_is_name { nx := fun _ w2 => Q .non w2, rt := Q } [some d0, none, none, none] w') : FD P w K mg base "_law_due" (k + 1) p :=
  fd_of T.f__law_due sc__law_due (dv__law_due T F__law_due l__law_due F__law_is_times l__law_is_times F__law_is_name l__law_is_name) len fun ds w' Q h => match ds, len ds w' Q h, h with | [d0], _, h => hp d0 w' Q h
def rd__law_odd (q__law_take : PSp) : WS :=
  (wSeq2 (wAsg (wLst (wCons (wC .non) (wCons (wC (.bl true)) (wCons (wC (.bl false)) (wCons (wC (.int 0)) (wCons (wNeg (wC (.int 1))) (wCons (wC (.int 7)) (wCons (wC (.int 3)) (wCons (wC (.str "")) (wCons (wC (.str "a")) (wCons (wC (.str "forth")) (wCons (wC (.str "step")) (wCons (wC (.str "Forth")) (wCons (wC (.str "knowsknow")) (wCons (wC (.str "a b")) (wCons (wC (.str "Kn")) (wCons (wC (.str "ab1")) wNil))))))))))))))))) (wName 1)) (wSeq2 (wAsg (wOp dAdd (wVar 1) (wLst (wCons (wTup wNil) (wCons (wLst wNil) (wCons (wTup (wCons (wTup (wCons (wC (.str "empty")) wNil)) wNil)) (wCons (wLst (wCons (wC (.str "empty")) wNil)) (wCons (wTup (wCons (wC (.str "empty")) wNil)) (wCons (wTup (wCons (wC (.str "none")) wNil)) (wCons (wTup (wCons (wC (.str "step")) (wCons (wC (.str "a")) wNil))) (wCons (wTup (wCons (wC (.str "again")) wNil)) (wCons (wTup (wCons (wC (.str "many")) wNil)) wNil))))))))))) (wName 1)) (wSeq2 (wAsg (wOp dAdd (wVar 1) (wLst (wCons (wTup (wCons (wC (.str "step")) (wCons (wC (.str "a")) (wCons (wLst (wCons (wC (.str "forth")) wNil)) wNil)))) (wCons (wTup (wCons (wC (.str "then")) (wCons (wTup (wCons (wC (.str "empty")) wNil)) wNil))) (wCons (wTup (wCons (wC (.str "or")) (wCons (wTup (wCons (wC (.str "empty")) wNil)) (wCons (wTup (wCons (wC (.str "empty")) wNil)) (wCons (wTup (wCons (wC (.str "empty")) wNil)) wNil))))) wNil))))) (wName 1)) (wSeq2 (wAsg (wOp dAdd (wVar 1) (wLst (wCons (wTup (wCons (wC (.str "many")) (wCons (wTup (wCons (wC (.str "empty")) wNil)) (wCons (wC (.int 2)) (wCons (wC (.int 1)) wNil))))) (wCons (wTup (wCons (wC (.str "many")) (wCons (wTup (wCons (wC (.str "empty")) wNil)) (wCons (wC (.int 0)) (wCons (wC (.int 0)) wNil))))) (wCons (wTup (wCons (wC (.str "many")) (wCons (wTup (wCons (wC (.str "empty")) wNil)) (wCons (wC (.bl false)) (wCons (wC (.int 1)) wNil))))) wNil))))) (wName 1)) (wSeq2 (wAsg (wOp dAdd (wVar 1) (wLst (wCons (wTup (wCons (wC (.str "many")) (wCons (wTup (wCons (wC (.str "empty")) wNil)) (wCons (wC (.int 0)) (wCons (wC (.int 7)) wNil))))) (wCons (wTup (wCons (wC (.str "many")) (wCons (wTup (wCons (wC (.str "empty")) wNil)) (wCons (wC (.str "0")) (wCons (wC (.int 1)) wNil))))) (wCons (wTup (wCons (wC (.str "step")) (wCons (wC (.int 5)) (wCons (wC (.str "back")) wNil)))) (wCons (wTup (wCons (wC .non) wNil)) (wCons (wTup (wCons (wTup wNil) wNil)) wNil))))))) (wName 1)) (wRet (wOp dIx (wVar 1) (wCall q__law_take (wCons (wVar 0) (wCons (wC (.int 36)) wNil))))))))))
theorem dv__law_odd {q__law_take : PSp} {k__law_take k : Nat} (T : Tx K mg) (F__law_take : FD P w K mg base "_law_take" k__law_take q__law_take) (l__law_take : k__law_take ≤ k) : ∀ (f : Addr) (cdv : Value) (A : Around) (outer : List Env) (s : Shared) (H : Hp) (E : XK), Room k (A.deeper (PyProof.Rows.envOfC "_law_odd" (defScope s__law_odd) s.heap.objs.size f cdv)) →
    DSs (cxOf CX0 P w K mg base n__law_odd "_law_odd" (defScope s__law_odd) f cdv A outer s H E).nox (defBody s__law_odd) (rd__law_odd q__law_take) := fun f cdv A outer s H E hr =>
  (ds_cons (ds_asg (de_lst (da_cons de_non (da_cons de_bl (da_cons de_bl (da_cons de_int (da_cons (de_neg de_int) (da_cons de_int (da_cons de_int (da_cons de_str (da_cons de_str (da_cons de_str (da_cons de_str (da_cons de_str (da_cons de_str (da_cons de_str (da_cons de_str (da_cons de_str da_nil))))))))))))))))) (dg_name (i := 1) sc__law_odd.nd rfl (by first | exact Or.inl rfl | exact Or.inr rfl))) (ds_cons (ds_asg (de_add (de_var 1) (de_lst (da_cons (de_tup da_nil) (da_cons (de_lst da_nil) (da_cons (de_tup (da_cons (de_tup (da_cons de_str da_nil)) da_nil)) (da_cons (de_lst (da_cons de_str da_nil)) (da_cons (de_tup (da_cons de_str da_nil)) (da_cons (de_tup (da_cons de_str da_nil)) (da_cons (de_tup (da_cons de_str (da_cons de_str da_nil))) (da_cons (de_tup (da_cons de_str da_nil)) (da_cons (de_tup (da_cons de_str da_nil)) da_nil))))))))))) (dg_name (i := 1) sc__law_odd.nd rfl (by first | exact Or.inl rfl | exact Or.inr rfl))) (ds_cons (ds_asg (de_add (de_var 1) (de_lst (da_cons (de_tup (da_cons de_str (da_cons de_str (da_cons (de_lst (da_cons de_str da_nil)) da_nil)))) (da_cons (de_tup (da_cons de_str (da_cons (de_tup (da_cons de_str da_nil)) da_nil))) (da_cons (de_tup (da_cons de_str (da_cons (de_tup (da_cons de_str da_nil)) (da_cons (de_tup (da_cons de_str da_nil)) (da_cons (de_tup (da_cons de_str da_nil)) da_nil))))) da_nil))))) (dg_name (i := 1) sc__law_odd.nd rfl (by first | exact Or.inl rfl | exact Or.inr rfl))) (ds_cons (ds_asg (de_add (de_var 1) (de_lst (da_cons (de_tup (da_cons de_str (da_cons (de_tup (da_cons de_str da_nil)) (da_cons de_int (da_cons de_int da_nil))))) (da_cons (de_tup (da_cons de_str (da_cons (de_tup (da_cons de_str da_nil)) (da_cons de_int (da_cons de_int da_nil))))) (da_cons (de_tup (da_cons de_str (da_cons (de_tup (da_cons de_str da_nil)) (da_cons de_bl (da_cons de_int da_nil))))) da_nil))))) (dg_name (i := 1) sc__law_odd.nd rfl (by first | exact Or.inl rfl | exact Or.inr rfl))) (ds_cons (ds_asg (de_add (de_var 1) (de_lst (da_cons (de_tup (da_cons de_str (da_cons (de_tup (da_cons de_str da_nil)) (da_cons de_int (da_cons de_int da_nil))))) (da_cons (de_tup (da_cons de_str (da_cons (de_tup (da_cons de_str da_nil)) (da_cons de_str (da_cons de_int da_nil))))) (da_cons (de_tup (da_cons de_str (da_cons de_int (da_cons de_str da_nil)))) (da_cons (de_tup (da_cons de_non da_nil)) (da_cons (de_tup (da_cons (de_tup da_nil) da_nil)) da_nil))))))) (dg_name (i := 1) sc__law_odd.nd rfl (by first | exact Or.inl rfl | exact Or.inr rfl))) (ds_one (ds_ret (de_ix (de_var 1) (de_call F__law_take (hr.mono l__law_take) (by rfl) (da_cons (de_var 0) (da_cons de_int da_nil)))))))))))
theorem fd__law_odd {q__law_take : PSp} {k__law_take k : Nat} {p : PSp} (T : Tx K mg) (F__law_take : FD P w K mg base "_law_take" k__law_take q__law_take) (l__law_take : k__law_take ≤ k) (len : ∀ ds w Q, p ds w Q → ds.length = 1) (hp : ∀ (d0 : PV) (w' : Wd) (Q : WQ), p [d0] w' Q → rd__law_odd q__law_take { nx := fun _ w2 => Q .non w2, rt := Q } [some d0, none] w') : FD P w K mg base "_law_odd" (k + 1) p :=
  fd_of T.f__law_odd sc__law_odd (dv__law_odd T F__law_take l__law_take) len fun ds w' Q h => match ds, len ds w' Q h, h with | [d0], _, h => hp d0 w' Q h
def rd__law_spoilt (q__law_spoilt : PSp) (q__law_take : PSp) (q__law_odd : PSp) : WS :=
  (wSeq2 (wIf (wOrT (wNotT (wTest (wCB (cI "tuple" isTupP) (wCons (wVar 1) (wCons (wC (.ty "tuple")) wNil))))) (wOrT (wTest (wOp (dEq) (wVar 1) (wTup wNil))) (wTest (wOp (dEq) (wCall q__law_take (wCons (wVar 0) (wCons (wC (.int 4)) wNil))) (wC (.int 0)))))) (wRet (wCall q__law_odd (wCons (wVar 0) wNil))) wNext) (wSeq2 (wAsg (wCall q__law_take (wCons (wVar 0) (wCons (wC (.int 8)) wNil))) (wName 2)) (wSeq2 (wIf (wTest (wOp (dEq) (wVar 2) (wC (.int 0)))) (wRet (wOp dAdd (wVar 1) (wTup (wCons (wCall q__law_odd (wCons (wVar 0) wNil)) wNil)))) wNext) (wSeq2 (wIf (wTest (wOp (dEq) (wVar 2) (wC (.int 1)))) (wRet (wSl (wVar 1) wNo (wPart (wNeg (wC (.int 1)))))) wNext) (wSeq2 (wIf (wTest (wOp (dEq) (wVar 2) (wC (.int 2)))) (wRet (wCB cList (wCons (wVar 1) wNil))) wNext) (wSeq2 (wAsg (wCall q__law_take (wCons (wVar 0) (wCons (wCB cLen (wCons (wVar 1) wNil)) wNil))) (wName 3)) (wSeq2 (wAsg (wCall q__law_spoilt (wCons (wVar 0) (wCons (wOp dIx (wVar 1) (wVar 3)) wNil))) (wName 4)) (wRet (wOp dAdd (wOp dAdd (wSl (wVar 1) wNo (wPart (wVar 3))) (wTup (wCons (wVar 4) wNil))) (wSl (wVar 1) (wPart (wOp dAdd (wVar 3) (wC (.int 1)))) wNo))))))))))
theorem dv__law_spoilt {q__law_spoilt q__law_take q__law_odd : PSp} {k__law_spoilt k__law_take k__law_odd k : Nat} (T : Tx K mg) (F__law_spoilt : FD P w K mg base "_law_spoilt" k__law_spoilt q__law_spoilt) (l__law_spoilt : k__law_spoilt ≤ k) (F__law_take : FD P w K mg base "_law_take" k__law_take q__law_take) (l__law_take : k__law_take ≤ k) (F__law_odd : FD P w K mg base "_law_odd" k__law_odd q__law_odd) (l__law_odd : k__law_odd ≤ k) : ∀ (f : Addr) (cdv : Value) (A : Around) (outer : List Env) (s : Shared) (H : Hp) (E : XK), Room k (A.deeper (PyProof.Rows.envOfC "_law_spoilt" (defScope s__law_spoilt) s.heap.objs.size f cdv)) →
    DSs (cxOf CX0 P w K mg base n__law_spoilt "_law_spoilt" (defScope s__law_spoilt) f cdv A outer s H E).nox (defBody s__law_spoilt) (rd__law_spoilt q__law_spoilt q__law_take q__law_odd) := fun f cdv A outer s H E hr =>
  (ds_cons (ds_if (dt_w (dw_or (dt_not (dt_val (de_callB (ca_i tr_tup) (by rfl) T.z_isinstance (by decide +kernel) (da_cons (de_var 1) (da_cons (de_ty (by rfl) T.z_tuple (by decide +kernel)) da_nil))))) (dw_or (dt_cm (cm_eq hr.units) (de_var 1) (de_tup da_nil) (nomark _)) (dw_or1 (dt_cm (cm_eq hr.units) (de_call F__law_take (hr.mono l__law_take) (by rfl) (da_cons (de_var 0) (da_cons de_int da_nil))) de_int (nomark _)))))) (ds_one (ds_ret (de_call F__law_odd (hr.mono l__law_odd) (by rfl) (da_cons (de_var 0) da_nil)))) ds_nil) (ds_cons (ds_asg (de_call F__law_take (hr.mono l__law_take) (by rfl) (da_cons (de_var 0) (da_cons de_int da_nil))) (dg_name (i := 2) sc__law_spoilt.nd rfl (by first | exact Or.inl rfl | exact Or.inr rfl))) (ds_cons (ds_if (dt_cm (cm_eq hr.units) (de_var 2) de_int (nomark _)) (ds_one (ds_ret (de_add (de_var 1) (de_tup (da_cons (de_call F__law_odd (hr.mono l__law_odd) (by rfl) (da_cons (de_var 0) da_nil)) da_nil))))) ds_nil) (ds_cons (ds_if (dt_cm (cm_eq hr.units) (de_var 2) de_int (nomark _)) (ds_one (ds_ret (de_slice (de_var 1) do_none (do_some (de_neg de_int))))) ds_nil) (ds_cons (ds_if (dt_cm (cm_eq hr.units) (de_var 2) de_int (nomark _)) (ds_one (ds_ret (de_callTy (ca_list) (by rfl) T.z_list (by decide +kernel) (da_cons (de_var 1) da_nil)))) ds_nil) (ds_cons (ds_asg (de_call F__law_take (hr.mono l__law_take) (by rfl) (da_cons (de_var 0) (da_cons (de_callB (ca_len) (by rfl) T.z_len (by decide +kernel) (da_cons (de_var 1) da_nil)) da_nil))) (dg_name (i := 3) sc__law_spoilt.nd rfl (by first | exact Or.inl rfl | exact Or.inr rfl))) (ds_cons (ds_asg (de_call F__law_spoilt (hr.mono l__law_spoilt) (by rfl) (da_cons (de_var 0) (da_cons (de_ix (de_var 1) (de_var 3)) da_nil))) (dg_name (i := 4) sc__law_spoilt.nd rfl (by first | exact Or.inl rfl | exact Or.inr rfl))) (ds_one (ds_ret (de_add (de_add (de_slice (de_var 1) do_none (do_some (de_var 3))) (de_tup (da_cons (de_var 4) da_nil))) (de_slice (de_var 1) (do_some (de_add (de_var 3) de_int)) do_none)))))))))))
theorem fd__law_spoilt {q__law_spoilt q__law_take q__law_odd : PSp} {k__law_spoilt k__law_take k__law_odd k : Nat} {p : PSp} (T : Tx K mg) (F__law_spoilt : FD P w K mg base "_law_spoilt" k__law_spoilt q__law_spoilt) (l__law_spoilt : k__law_spoilt ≤ k) (F__law_take : FD P w K mg base "_law_take" k__law_take q__law_take) (l__law_take : k__law_take ≤ k) (F__law_odd : FD P w K mg base "_law_odd" k__law_odd q__law_odd) (l__law_odd : k__law_odd ≤ k) (len : ∀ ds w Q, p ds w Q → ds.length = 2) (hp : ∀ (d0 d1 : PV) (w' : Wd) (Q : WQ), p [d0, d1] w' Q → rd__law_spoilt q__law_spoilt q__law_take q__law_odd { nx := fun _ w2 => Q .non w2, rt := Q } [some d0, some d1, none, none, none] w') : FD P w K mg base "_law_spoilt" (k + 1) p :=
  fd_of T.f__law_spoilt sc__law_spoilt (dv__law_spoilt T F__law_spoilt l__law_spoilt F__law_take l__law_take F__law_odd l__law_odd) len fun ds w' Q h => match ds, len ds w' Q h, h with | [d0, d1], _, h => hp d0 d1 w' Q h
def rd__law_right (q__law_due : PSp) (q_is_way : PSp) : WS :=
  (wSeq2 (wAsg (wCall q_is_way (wCons (wVar 0) wNil)) (wName 1)) (wRet (wAndV (wCB (cI "bool" isBoolP) (wCons (wVar 1) (wCons (wC (.ty "bool")) wNil))) (wOp (dEq) (wVar 1) (wCall q__law_due (wCons (wVar 0) wNil))))))
theorem dv__law_right {q__law_due q_is_way : PSp} {k__law_due k_is_way k : Nat} (T : Tx K mg) (F__law_due : FD P w K mg base "_law_due" k__law_due q__law_due) (l__law_due : k__law_due ≤ k) (F_is_way : FD P w K mg base "is_way" k_is_way q_is_way) (l_is_way : k_is_way ≤ k) : ∀ (f : Addr) (cdv : Value) (A : Around) (outer : List Env) (s : Shared) (H : Hp) (E : XK), Room k (A.deeper (PyProof.Rows.envOfC "_law_right" (defScope s__law_right) s.heap.objs.size f cdv)) →
    DSs (cxOf CX0 P w K mg base n__law_right "_law_right" (defScope s__law_right) f cdv A outer s H E).nox (defBody s__law_right) (rd__law_right q__law_due q_is_way) := fun f cdv A outer s H E hr =>
  (ds_cons (ds_asg (de_call F_is_way (hr.mono l_is_way) (by rfl) (da_cons (de_var 0) da_nil)) (dg_name (i := 1) sc__law_right.nd rfl (by first | exact Or.inl rfl | exact Or.inr rfl))) (ds_one (ds_ret (de_and (de_callB (ca_i tr_bool) (by rfl) T.z_isinstance (by decide +kernel) (da_cons (de_var 1) (da_cons (de_ty (by rfl) T.z_bool (by decide +kernel)) da_nil))) (de_one (de_cm (cm_eq hr.units) (de_var 1) (de_call F__law_due (hr.mono l__law_due) (by rfl) (da_cons (de_var 0) da_nil)) (nomark _)))))))
theorem fd__law_right {q__law_due q_is_way : PSp} {k__law_due k_is_way k : Nat} {p : PSp} (T : Tx K mg) (F__law_due : FD P w K mg base "_law_due" k__law_due q__law_due) (l__law_due : k__law_due ≤ k) (F_is_way : FD P w K mg base "is_way" k_is_way q_is_way) (l_is_way : k_is_way ≤ k) (len : ∀ ds w Q, p ds w Q → ds.length = 1) (hp : ∀ (d0 : PV) (w' : Wd) (Q : WQ), p [d0] w' Q → rd__law_right q__law_due q_is_way { nx := fun _ w2 => Q .non w2, rt := Q } [some d0, none] w') : FD P w K mg base "_law_right" (k + 1) p :=
  fd_of T.f__law_right sc__law_right (dv__law_right T F__law_due l__law_due F_is_way l_is_way) len fun ds w' Q h => match ds, len ds w' Q h, h with | [d0], _, h => hp d0 w' Q h
def rd_law (q__law_right : PSp) (q__law_odd : PSp) (q__law_spoilt : PSp) (q_is_way : PSp) (q__law_way : PSp) (q__law_kinds : PSp) (q__law_hand : PSp) : WS :=
  (wSeq2 (wAsg (wTup (wCons (wC (.str "empty")) wNil)) (wName 1)) (wSeq2 (wFor (wRng1 (wCons (wC (.int 12)) wNil)) (wName 2) (wAsg (wOp dIx (wTup (wCons (wTup (wCons (wC (.str "again")) (wCons (wVar 1) wNil))) (wCons (wTup (wCons (wC (.str "then")) (wCons (wTup (wCons (wC (.str "empty")) wNil)) (wCons (wVar 1) wNil)))) (wCons (wTup (wCons (wC (.str "many")) (wCons (wVar 1) (wCons (wC (.int 0)) (wCons (wC (.int 6)) wNil))))) wNil)))) (wOp dMod (wVar 2) (wC (.int 3)))) (wName 1))) (wSeq2 (wIf (wOrT (wTest (wOp (dIs true) (wCall q_is_way (wCons (wVar 1) wNil)) (wC (.bl true)))) (wTest (wOp (dIs true) (wCall q_is_way (wCons (wTup (wCons (wC (.str "again")) (wCons (wCB cList (wCons (wVar 1) wNil)) wNil))) wNil)) (wC (.bl false))))) (wRet (wC (.bl false))) wNext) (wSeq2 (wFor (wRng1 (wCons (wOp dAdd (wC (.int 1)) (wCB cMin2 (wCons (wC (.int 4)) (wCons (wCB cLen (wCons (wVar 0) wNil)) wNil)))) wNil)) (wName 2) (wSeq2 (wAsg (wCall q__law_hand (wCons (wVar 0) (wCons (wVar 2) wNil))) (wName 3)) (wSeq2 (wAsg (wCall q__law_way (wCons (wVar 3) (wCons (wCall q__law_kinds (wCons (wVar 3) wNil)) (wCons (wC (.int 12)) (wCons (wC (.int 2)) wNil))))) (wName 4)) (wSeq2 (wIf (wTest (wOp (dIs true) (wCall q_is_way (wCons (wVar 4) wNil)) (wC (.bl true)))) (wRet (wC (.bl false))) wNext) (wFor (wRng1 (wCons (wC (.int 8)) wNil)) (wName 5) (wIf (wOrT (wNotT (wTest (wCall q__law_right (wCons (wCall q__law_spoilt (wCons (wVar 3) (wCons (wVar 4) wNil))) wNil)))) (wNotT (wTest (wCall q__law_right (wCons (wCall q__law_odd (wCons (wVar 3) wNil)) wNil))))) (wRet (wC (.bl false))) wNext)))))) (wRet (wC (.bl true)))))))
theorem dv_law {q__law_right q__law_odd q__law_spoilt q_is_way q__law_way q__law_kinds q__law_hand : PSp} {k__law_right k__law_odd k__law_spoilt k_is_way k__law_way k__law_kinds k__law_hand k : Nat} (T : Tx K mg) (F__law_right : FD P w K mg base "_law_right" k__law_right q__law_right) (l__law_right : k__law_right ≤ k) (F__law_odd : FD P w K mg base "_law_odd" k__law_odd q__law_odd) (l__law_odd : k__law_odd ≤ k) (F__law_spoilt : FD P w K mg base "_law_spoilt" k__law_spoilt q__law_spoilt) (l__law_spoilt : k__law_spoilt ≤ k) (F_is_way : FD P w K mg base "is_way" k_is_way q_is_way) (l_is_way : k_is_way ≤ k) (F__law_way : FD P w K mg base "_law_way" k__law_way q__law_way) (l__law_way : k__law_way ≤ k) (F__law_kinds : FD P w K mg base "_law_kinds" k__law_kinds q__law_kinds) (l__law_kinds : k__law_kinds ≤ k) (F__law_hand : FD P w K mg base "_law_hand" k__law_hand q__law_hand) (l__law_hand : k__law_hand ≤ k) : ∀ (f : Addr) (cdv : Value) (A : Around) (outer : List Env) (s : Shared) (H : Hp) (E : XK), Room k (A.deeper (PyProof.Rows.envOfC "law" (defScope s_law) s.heap.objs.size f cdv)) →
    DSs (cxOf CX0 P w K mg base n_law "law" (defScope s_law) f cdv A outer s H E).nox (defBody s_law) (rd_law q__law_right q__law_odd q__law_spoilt q_is_way q__law_way q__law_kinds q__law_hand) := fun f cdv A outer s H E hr =>
  (ds_cons (ds_asg (de_tup (da_cons de_str da_nil)) (dg_name (i := 1) sc_law.nd rfl (by first | exact Or.inl rfl | exact Or.inr rfl))) (ds_cons (ds_for PassesOwn.never rfl (di_range1 (by rfl) T.z_range (da_cons de_int da_nil)) (dg_name (i := 2) sc_law.nd rfl (by first | exact Or.inl rfl | exact Or.inr rfl)) (ds_one (ds_asg (de_ix (de_tup (da_cons (de_tup (da_cons de_str (da_cons (de_var 1) da_nil))) (da_cons (de_tup (da_cons de_str (da_cons (de_tup (da_cons de_str da_nil)) (da_cons (de_var 1) da_nil)))) (da_cons (de_tup (da_cons de_str (da_cons (de_var 1) (da_cons de_int (da_cons de_int da_nil))))) da_nil)))) (de_mod (de_var 2) de_int)) (dg_name (i := 1) sc_law.nd rfl (by first | exact Or.inl rfl | exact Or.inr rfl))))) (ds_cons (ds_if (dt_w (dw_or (dt_cm (cm_isnot) (de_call F_is_way (hr.mono l_is_way) (by rfl) (da_cons (de_var 1) da_nil)) de_bl (nomark _)) (dw_or1 (dt_cm (cm_isnot) (de_call F_is_way (hr.mono l_is_way) (by rfl) (da_cons (de_tup (da_cons de_str (da_cons (de_callTy (ca_list) (by rfl) T.z_list (by decide +kernel) (da_cons (de_var 1) da_nil)) da_nil))) da_nil)) de_bl (nomark _))))) (ds_one (ds_ret de_bl)) ds_nil) (ds_cons (ds_for PassesOwn.never rfl (di_range1 (by rfl) T.z_range (da_cons (de_add de_int (de_callB (ca_min2 rfl) (by rfl) T.z_min (by decide +kernel) (da_cons de_int (da_cons (de_callB (ca_len) (by rfl) T.z_len (by decide +kernel) (da_cons (de_var 0) da_nil)) da_nil)))) da_nil)) (dg_name (i := 2) sc_law.nd rfl (by first | exact Or.inl rfl | exact Or.inr rfl)) (ds_cons (ds_asg (de_call F__law_hand (hr.mono l__law_hand) (by rfl) (da_cons (de_var 0) (da_cons (de_var 2) da_nil))) (dg_name (i := 3) sc_law.nd rfl (by first | exact Or.inl rfl | exact Or.inr rfl))) (ds_cons (ds_asg (de_call F__law_way (hr.mono l__law_way) (by rfl) (da_cons (de_var 3) (da_cons (de_call F__law_kinds (hr.mono l__law_kinds) (by rfl) (da_cons (de_var 3) da_nil)) (da_cons de_int (da_cons de_int da_nil))))) (dg_name (i := 4) sc_law.nd rfl (by first | exact Or.inl rfl | exact Or.inr rfl))) (ds_cons (ds_if (dt_cm (cm_isnot) (de_call F_is_way (hr.mono l_is_way) (by rfl) (da_cons (de_var 4) da_nil)) de_bl (nomark _)) (ds_one (ds_ret de_bl)) ds_nil) (ds_one (ds_for PassesOwn.never rfl (di_range1 (by rfl) T.z_range (da_cons de_int da_nil)) (dg_name (i := 5) sc_law.nd rfl (by first | exact Or.inl rfl | exact Or.inr rfl)) (ds_one (ds_if (dt_w (dw_or (dt_not (dt_val (de_call F__law_right (hr.mono l__law_right) (by rfl) (da_cons (de_call F__law_spoilt (hr.mono l__law_spoilt) (by rfl) (da_cons (de_var 3) (da_cons (de_var 4) da_nil))) da_nil)))) (dw_or1 (dt_not (dt_val (de_call F__law_right (hr.mono l__law_right) (by rfl) (da_cons (de_call F__law_odd (hr.mono l__law_odd) (by rfl) (da_cons (de_var 3) da_nil)) da_nil))))))) (ds_one (ds_ret de_bl)) ds_nil)))))))) (ds_one (ds_ret de_bl))))))
theorem fn_law {q__law_right q__law_odd q__law_spoilt q_is_way q__law_way q__law_kinds q__law_hand : PSp} {k__law_right k__law_odd k__law_spoilt k_is_way k__law_way k__law_kinds k__law_hand k : Nat} {p : PSp} {fa : Addr} {fd : FuncData} (T : Tx K mg) (F : Fun K "law" "law" s_law fa fd) (F__law_right : FD P w K mg base "_law_right" k__law_right q__law_right) (l__law_right : k__law_right ≤ k) (F__law_odd : FD P w K mg base "_law_odd" k__law_odd q__law_odd) (l__law_odd : k__law_odd ≤ k) (F__law_spoilt : FD P w K mg base "_law_spoilt" k__law_spoilt q__law_spoilt) (l__law_spoilt : k__law_spoilt ≤ k) (F_is_way : FD P w K mg base "is_way" k_is_way q_is_way) (l_is_way : k_is_way ≤ k) (F__law_way : FD P w K mg base "_law_way" k__law_way q__law_way) (l__law_way : k__law_way ≤ k) (F__law_kinds : FD P w K mg base "_law_kinds" k__law_kinds q__law_kinds) (l__law_kinds : k__law_kinds ≤ k) (F__law_hand : FD P w K mg base "_law_hand" k__law_hand q__law_hand) (l__law_hand : k__law_hand ≤ k) (len : ∀ ds w Q, p ds w Q → ds.length = 1) (hp : ∀ (d0 : PV) (w' : Wd) (Q : WQ), p [d0] w' Q → rd_law q__law_right q__law_odd q__law_spoilt q_is_way q__law_way q__law_kinds q__law_hand { nx := fun _ w2 => Q .non w2, rt := Q } [some d0, none, none, none, none, none] w') : FnOk P w K mg base CX0 (k + 1) fa fd ["_law_script"] (upSp K p) :=
  fn_of_law F sc_law (dv_law T F__law_right l__law_right F__law_odd l__law_odd F__law_spoilt l__law_spoilt F_is_way l_is_way F__law_way l__law_way F__law_kinds l__law_kinds F__law_hand l__law_hand) len fun ds w' Q h => match ds, len ds w' Q h, h with | [d0], _, h => hp d0 w' Q h
end
end Lw

namespace Lw
open PySem L2 Pd
local macro_rules | `(tactic| walk_at "go") => `(tactic| (repeat (first | with_reducible refine x_v0 ?_ | with_reducible refine x_v1 ?_ | with_reducible refine x_v2 ?_ | with_reducible refine x_v3 ?_ | with_reducible refine x_v4 ?_ | with_reducible refine x_v5 ?_ | with_reducible refine x_v6 ?_ | with_reducible refine x_v7 ?_ | with_reducible refine x_v8 ?_ | with_reducible refine x_v9 ?_ | with_reducible refine x_v10 ?_ | with_reducible refine x_v11 ?_ | with_reducible refine x_v12 ?_ | with_reducible refine x_v13 ?_ | with_reducible refine x_v14 ?_ | with_reducible refine x_v15 ?_ | with_reducible refine x_v16 ?_ | with_reducible refine x_v17 ?_ | with_reducible refine x_v18 ?_ | with_reducible refine x_v19 ?_ | with_reducible refine x_v20 ?_ | with_reducible refine x_v21 ?_ | with_reducible refine x_v22 ?_ | with_reducible refine x_v23 ?_ | with_reducible refine x_v24 ?_ | with_reducible refine x_v25 ?_ | with_reducible refine x_seq ?_ | with_reducible refine x_next ?_ | with_reducible refine x_break ?_ | with_reducible refine x_cont ?_ | with_reducible refine x_asg ?_ | with_reducible refine x_drop ?_ | with_reducible refine x_ret ?_ | with_reducible refine x_retN ?_ | with_reducible refine x_if ?_ | with_reducible refine x_for ?_ | with_reducible refine x_name ?_ | with_reducible refine x_gcons ?_ | with_reducible refine x_gnil ?_ | with_reducible refine x_gsubc ?_ | with_reducible refine x_c ?_ | with_reducible refine x_getC ?_ | with_reducible refine x_rgetS ?_ | with_reducible refine x_rgetI ?_ | with_reducible refine x_ixD ?_ | with_reducible refine x_op ?_ | with_reducible refine x_andV ?_ | with_reducible refine x_orV ?_ | with_reducible refine x_notV ?_ | with_reducible refine x_ifE ?_ | with_reducible refine x_neg ?_ | with_reducible refine x_rneg ?_ | with_reducible refine x_chain ?_ | with_reducible refine x_chain3 ?_ | with_reducible refine x_par ?_ | with_reducible refine x_par3 ?_ | with_reducible refine x_onPar ?_ | with_reducible refine x_onPar3 ?_ | with_reducible refine x_tup ?_ | with_reducible refine x_lst ?_ | with_reducible refine x_mlst ?_ | with_reducible refine x_cons ?_ | with_reducible refine x_nil ?_ | with_reducible refine x_cb ?_ | with_reducible refine x_call ?_ | with_reducible refine x_ixc ?_ | with_reducible refine x_rixl ?_ | with_reducible refine x_rixt ?_ | with_reducible refine x_rixz ?_ | with_reducible refine x_sl ?_ | with_reducible refine x_no ?_ | with_reducible refine x_part ?_ | with_reducible refine x_onI ?_ | with_reducible refine x_onB ?_ | with_reducible refine x_onS ?_ | with_reducible refine x_sll ?_ | with_reducible refine x_slz ?_ | with_reducible refine x_slt ?_ | with_reducible refine x_lc ?_ | with_reducible refine x_seqI ?_ | with_reducible refine x_sql ?_ | with_reducible refine x_sqt ?_ | with_reducible refine x_sqz ?_ | with_reducible refine x_sqs ?_ | with_reducible refine x_rng1 ?_ | with_reducible refine x_rng2 ?_ | with_reducible refine x_join ?_ | with_reducible refine x_test ?_ | with_reducible refine x_andT ?_ | with_reducible refine x_orT ?_ | with_reducible refine x_notT ?_ | with_reducible refine x_addI ?_ | with_reducible refine x_sub ?_ | with_reducible refine x_eqI ?_ | with_reducible refine x_neI ?_ | with_reducible refine x_eqS ?_ | with_reducible refine x_neS ?_ | with_reducible refine x_eqB ?_ | with_reducible refine x_ltI ?_ | with_reducible refine x_leI ?_ | with_reducible refine x_gtI ?_ | with_reducible refine x_geI ?_ | with_reducible refine x_ltS ?_ | with_reducible refine x_gtS ?_ | with_reducible refine x_isnt ?_ | with_reducible refine x_isB ?_ | with_reducible refine x_isnB ?_ | with_reducible refine x_lenL ?_ | with_reducible refine x_lenT ?_ | with_reducible refine x_lenZ ?_ | with_reducible refine x_abs ?_ | with_reducible refine x_max ?_ | with_reducible refine x_min ?_ | with_reducible refine x_intI ?_ | with_reducible refine x_intB ?_ | with_reducible refine x_listL ?_ | with_reducible refine x_listT ?_ | with_reducible refine x_tupL ?_ | with_reducible refine x_tupT ?_ | with_reducible refine x_at0 ?_ | with_reducible refine x_at1 ?_ | with_reducible refine x_at2 ?_ | with_reducible refine x_at3 ?_ | with_reducible refine x_at4 ?_ | with_reducible refine x_at5 ?_ | with_reducible refine x_at6 ?_ | with_reducible refine x_rixr (by first | assumption | exact wset_same) ?_ | with_reducible refine x_lenR (by first | assumption | exact wset_same) ?_ | ((with_reducible refine x_rsubc (by first | assumption | exact wset_same) ?_ ?_); (first | (focus (simp; done)) | (focus (simp; omega)))) | ((with_reducible refine x_gtup ?_ ?_); (first | rfl | (focus (simp; done)))) | ((with_reducible refine x_cI ?_ ?_); (first | exact True.intro | assumption)) | ((with_reducible refine x_cI2 ?_ ?_); (first | exact True.intro | assumption)) | ((with_reducible refine x_addL ?_ ?_); (first | (focus (show _ ≤ sizeLine; rw [sizeLine_eq]; simp; done)) | omega)) | ((with_reducible refine x_addT ?_ ?_); (first | (focus (show _ ≤ sizeLine; rw [sizeLine_eq]; simp; done)) | omega)) | ((with_reducible refine x_addS ?_ ?_); (first | (focus (show _ ≤ sizeLine; rw [sizeLine_eq]; simp; done)) | omega)) | ((with_reducible refine x_mod ?_ ?_); (first | omega | assumption)) | ((with_reducible refine x_fdiv ?_ ?_ ?_); (first | omega | assumption); (first | omega | assumption)) | ((with_reducible refine x_mul ?_ ?_); (first | (left; omega) | (right; omega))) | ((with_reducible refine x_pow ?_ ?_ ?_ ?_); decide; decide; decide; (try simp only [Int.reduceToNat, Int.reducePow])) | ((with_reducible refine x_and ?_ ?_); (first | (focus (show _ ≤ sizeLine; rw [sizeLine_eq]; simp; done)) | omega)) | ((with_reducible refine x_rrng1 ?_ ?_ ?_); omega; omega) | ((with_reducible refine x_iteT ?_ ?_); (first | omega | assumption)) | ((with_reducible refine x_iteF ?_ ?_); (first | omega | assumption)) | ((with_reducible refine x_iteNT ?_ ?_); (first | omega | assumption)) | ((with_reducible refine x_iteNF ?_ ?_); (first | omega | assumption)) | with_reducible refine x_iTrue ?_ | with_reducible refine x_iFalse ?_ | with_reducible refine L2.iteT ?_ | with_reducible refine L2.iteF ?_ | simp only [wset_wset] | ((with_reducible refine x_iteV ?_ ?_); focus (first | rfl | assumption)) | ((with_reducible refine x_iteW ?_ ?_); focus (first | rfl | assumption)) | ((with_reducible refine x_iteNV ?_ ?_); focus (first | rfl | assumption)) | ((with_reducible refine x_iteNW ?_ ?_); focus (first | rfl | assumption)) | dsimp only [List.set])))
/-- lengths of texts are small -/
def SzOk : PV → Prop
  | .str s => s.length ≤ sizeLine
  | _ => True
def qOf (f : PV → Bool) : PSp := fun ds w Q => ∃ d, ds = [d] ∧ d.pl = true ∧ SzOk d ∧ Q (.bl (f d)) w
def isNum : PV → Bool
  | .int _ => true
  | _ => false
def isStr : PV → Bool
  | .str _ => true
  | _ => false
def okD : Nat → PV → Bool
  | 0, _ => false
  | _ + 1, .str s => decide (s.length ≤ 1000)
  | _ + 1, .int _ => true
  | _ + 1, .bl _ => true
  | _ + 1, .non => true
  | n + 1, .tup ds => decide (ds.length ≤ 8) && ds.all (okD n)
  | n + 1, .lst ds => decide (ds.length ≤ 8) && ds.all (okD n)
  | _ + 1, _ => false
theorem pls_of : ∀ {ds : List PV}, (∀ d ∈ ds, d.pl = true) → PV.pls ds = true
  | [], _ => by simp [PV.pls]
  | d :: r, h => by simp [PV.pls, h d (List.mem_cons_self ..), pls_of fun x hx => h x (List.mem_cons_of_mem _ hx)]
theorem okD_pl : ∀ {n : Nat} {d : PV}, okD n d = true → d.pl = true
  | n + 1, .str _, _ => by simp [PV.pl]
  | n + 1, .int _, _ => by simp [PV.pl]
  | n + 1, .bl _, _ => by simp [PV.pl]
  | n + 1, .non, _ => by simp [PV.pl]
  | n + 1, .tup ds, h => by
    simp only [okD, Bool.and_eq_true, List.all_eq_true] at h
    simp only [PV.pl]; exact pls_of fun d hd => okD_pl (h.2 d hd)
  | n + 1, .lst ds, h => by
    simp only [okD, Bool.and_eq_true, List.all_eq_true] at h
    simp only [PV.pl]; exact pls_of fun d hd => okD_pl (h.2 d hd)
theorem okD_sz {n : Nat} {d : PV} (h : okD n d = true) : SzOk d := by
  cases n with
  | zero => simp [okD] at h
  | succ n =>
    cases d <;> try exact True.intro
    simp only [okD, decide_eq_true_eq] at h
    exact sl_small (by omega)
theorem okD_up : ∀ {n : Nat} {d : PV}, okD n d = true → okD (n + 1) d = true
  | n + 1, .str _, h => h
  | n + 1, .int _, _ => rfl
  | n + 1, .bl _, _ => rfl
  | n + 1, .non, _ => rfl
  | n + 1, .tup ds, h => by
    simp only [okD, Bool.and_eq_true, List.all_eq_true] at h ⊢
    exact ⟨h.1, fun d hd => by have := okD_up (h.2 d hd); simpa only [okD] using this⟩
  | n + 1, .lst ds, h => by
    simp only [okD, Bool.and_eq_true, List.all_eq_true] at h ⊢
    exact ⟨h.1, fun d hd => by have := okD_up (h.2 d hd); simpa only [okD] using this⟩
theorem okD_le {n m : Nat} {d : PV} (h : okD n d = true) (l : n ≤ m) : okD m d = true := by
  induction l with
  | refl => exact h
  | step _ ih => exact okD_up ih
theorem beq_comm' (a b : Str) : (a == b) = decide (b = a) := by rw [str_beq]; exact Bool.eq_iff_iff.mpr (by simp; exact eq_comm)
def isNon : PV → Bool
  | .non => true
  | _ => false
theorem x_isN {w : Wd} {Q : WQ} {d : PV} {neg : Bool} (hp : d.pl = true) (h : Q (.bl (if neg then !isNon d else isNon d)) w) : dIs neg d .non w Q := by
  cases d <;> first | (exfalso; simp [PV.pl] at hp; done) | exact h
/-- what kind of word of a way -/
def wk (w : Str) : Nat := if w = "step" then 0 else if w = "empty" then 1 else if w = "then" ∨ w = "or" then 2 else if w = "again" then 3 else if w = "many" then 4 else 5
def isTurn : PV → Bool
  | .str z => decide (z = "forth" ∨ z = "back" ∨ z = "either")
  | _ => false
def isTimes : PV → PV → Bool
  | .int i, .int j => decide (0 ≤ i) && decide (i ≤ j) && decide (j ≤ 6)
  | _, _ => false
def isStep (a b : PV) : Bool := (isNon a || isNm a) && isTurn b
/-- a way, by so many steps -/
def isW : Nat → PV → Bool
  | 0, _ => false
  | n + 1, .tup (.str z :: r) => match wk z, r with
    | 0, [a, b] => isStep a b
    | 1, [] => true
    | 2, [a, b] => isW n a && isW n b
    | 3, [a] => isW n a
    | 4, [a, l, h] => isTimes l h && isW n a
    | _, _ => false
  | _ + 1, _ => false
theorem isW_s (n : Nat) (z : Str) (r : List PV) : isW (n + 1) (.tup (.str z :: r)) = (match wk z, r with | 0, [a, b] => isStep a b | 1, [] => true | 2, [a, b] => isW n a && isW n b | 3, [a] => isW n a | 4, [a, l, h] => isTimes l h && isW n a | _, _ => false) := rfl
theorem isW_up : ∀ {n : Nat} {d : PV}, isW n d = true → isW (n + 1) d = true
  | n + 1, .tup (.str z :: r), h => by
    rw [isW_s] at h ⊢
    generalize wk z = c at h ⊢
    split at h <;> first | exact h | (simp only [Bool.and_eq_true] at h ⊢; exact ⟨isW_up h.1, isW_up h.2⟩) | (simp only [Bool.and_eq_true] at h ⊢; exact ⟨h.1, isW_up h.2⟩) | exact isW_up h | cases h
  | n + 1, .tup [], h => by simp [isW] at h
  | n + 1, .tup (.int _ :: _), h => by simp [isW] at h
  | n + 1, .tup (.bl _ :: _), h => by simp [isW] at h
  | n + 1, .tup (.non :: _), h => by simp [isW] at h
  | n + 1, .tup (.tup _ :: _), h => by simp [isW] at h
  | n + 1, .tup (.lst _ :: _), h => by simp [isW] at h
  | n + 1, .tup (.scr _ :: _), h => by simp [isW] at h
  | n + 1, .tup (.ref _ :: _), h => by simp [isW] at h
  | n + 1, .tup (.ty _ :: _), h => by simp [isW] at h
theorem isW_le {n m : Nat} {d : PV} (h : isW n d = true) (l : n ≤ m) : isW m d = true := by
  induction l with
  | refl => exact h
  | step _ ih => exact isW_up ih
theorem wkcases (z : Str) : (z = "step" ∧ wk z = 0) ∨ (z = "empty" ∧ wk z = 1) ∨ (z = "then" ∧ wk z = 2) ∨ (z = "or" ∧ wk z = 2) ∨ (z = "again" ∧ wk z = 3) ∨ (z = "many" ∧ wk z = 4) ∨
    ((z ≠ "step" ∧ z ≠ "empty" ∧ z ≠ "then" ∧ z ≠ "or" ∧ z ≠ "again" ∧ z ≠ "many") ∧ wk z = 5) := by
  by_cases h1 : z = "step"
  · exact .inl ⟨h1, by subst h1; decide +kernel⟩
  by_cases h2 : z = "empty"
  · exact .inr (.inl ⟨h2, by subst h2; decide +kernel⟩)
  by_cases h3 : z = "then"
  · exact .inr (.inr (.inl ⟨h3, by subst h3; decide +kernel⟩))
  by_cases h4 : z = "or"
  · exact .inr (.inr (.inr (.inl ⟨h4, by subst h4; decide +kernel⟩)))
  by_cases h5 : z = "again"
  · exact .inr (.inr (.inr (.inr (.inl ⟨h5, by subst h5; decide +kernel⟩))))
  by_cases h6 : z = "many"
  · exact .inr (.inr (.inr (.inr (.inr (.inl ⟨h6, by subst h6; decide +kernel⟩)))))
  · exact .inr (.inr (.inr (.inr (.inr (.inr ⟨⟨h1, h2, h3, h4, h5, h6⟩, by unfold wk; simp [h1, h2, h3, h4, h5, h6]⟩)))))
theorem wStep (z : Str) : decide (z = "step") = decide (wk z = 0) := by rcases wkcases z with ⟨rfl, k⟩ | ⟨rfl, k⟩ | ⟨rfl, k⟩ | ⟨rfl, k⟩ | ⟨rfl, k⟩ | ⟨rfl, k⟩ | ⟨⟨h1, h2, h3, h4, h5, h6⟩, k⟩ <;> first | decide +kernel | simp [*]
theorem wEmpty (z : Str) : decide (z = "empty") = decide (wk z = 1) := by rcases wkcases z with ⟨rfl, k⟩ | ⟨rfl, k⟩ | ⟨rfl, k⟩ | ⟨rfl, k⟩ | ⟨rfl, k⟩ | ⟨rfl, k⟩ | ⟨⟨h1, h2, h3, h4, h5, h6⟩, k⟩ <;> first | decide +kernel | simp [*]
theorem wAgain (z : Str) : decide (z = "again") = decide (wk z = 3) := by rcases wkcases z with ⟨rfl, k⟩ | ⟨rfl, k⟩ | ⟨rfl, k⟩ | ⟨rfl, k⟩ | ⟨rfl, k⟩ | ⟨rfl, k⟩ | ⟨⟨h1, h2, h3, h4, h5, h6⟩, k⟩ <;> first | decide +kernel | simp [*]
theorem wMany (z : Str) : decide (z = "many") = decide (wk z = 4) := by rcases wkcases z with ⟨rfl, k⟩ | ⟨rfl, k⟩ | ⟨rfl, k⟩ | ⟨rfl, k⟩ | ⟨rfl, k⟩ | ⟨rfl, k⟩ | ⟨⟨h1, h2, h3, h4, h5, h6⟩, k⟩ <;> first | decide +kernel | simp [*]
theorem wThen (z : Str) : ([PV.str "then", .str "or"].any fun e => PV.eqb e (.str z)) = decide (wk z = 2) := by
  simp only [List.any_cons, List.any_nil, PV.eqb, beq_comm', Bool.or_false]
  rcases wkcases z with ⟨rfl, k⟩ | ⟨rfl, k⟩ | ⟨rfl, k⟩ | ⟨rfl, k⟩ | ⟨rfl, k⟩ | ⟨rfl, k⟩ | ⟨⟨h1, h2, h3, h4, h5, h6⟩, k⟩ <;> first | decide +kernel | simp [*]
theorem wTurn (z : Str) : ([PV.str "forth", .str "back", .str "either"].any fun e => PV.eqb e (.str z)) = isTurn (.str z) := by
  simp only [List.any_cons, List.any_nil, PV.eqb, beq_comm', Bool.or_false, isTurn]
  rw [Bool.eq_iff_iff]; simp
def wSize : Nat → Int
  | 1 => 1
  | 2 => 3
  | 3 => 2
  | _ => 0
theorem wGet (z : Str) : (valP [(.inr "empty", .int 1), (.inr "then", .int 3), (.inr "or", .int 3), (.inr "again", .int 2)] (.inr z)).getD (.int 0) = .int (wSize (wk z)) := by
  have e : ∀ (a b : Str), decide ((Sum.inr a : Key) = Sum.inr b) = decide (b = a) := fun a b => Bool.eq_iff_iff.mpr (by simp; exact eq_comm)
  unfold valP
  simp only [List.find?_cons, e]
  rcases wkcases z with ⟨rfl, k⟩ | ⟨rfl, k⟩ | ⟨rfl, k⟩ | ⟨rfl, k⟩ | ⟨rfl, k⟩ | ⟨rfl, k⟩ | ⟨⟨h1, h2, h3, h4, h5, h6⟩, k⟩ <;> first | rfl | simp [*, wSize]
def qW (n : Nat) : PSp := fun ds w Q => ∃ d, ds = [d] ∧ okD n d = true ∧ Q (.bl (isW n d)) w
def qStep : PSp := fun ds w Q => ∃ n a b, ds = [a, b] ∧ okD n a = true ∧ okD n b = true ∧ Q (.bl (isStep a b)) w
def qTimes : PSp := fun ds w Q => ∃ n a b, ds = [a, b] ∧ okD n a = true ∧ okD n b = true ∧ Q (.bl (isTimes a b)) w
section
variable {P : Program} {w : World} {K : Frag} {mg : Str → Option Value} {base : Heap}
theorem ok_text (T : Tx K mg) : FD P w K mg base "is_text" 1 (qOf isStr) := fd_is_text T (by rintro ds w Q ⟨d, rfl, _⟩; rfl) (by
  rintro d0 w' Q ⟨d, e, hp, hs, h⟩
  cases e
  unfold rd_is_text
  cases d0 <;> simp [PV.pl] at hp <;> (walk_at "go"; exact h))
theorem ok_name (T : Tx K mg) : FD P w K mg base "is_name" 2 (qOf isNm) := fd_is_name T (ok_text T) (Nat.le_refl _) (by rintro ds w Q ⟨d, rfl, _⟩; rfl) (by
  rintro d0 w' Q ⟨d, e, hp, hs, h⟩
  cases e
  unfold rd_is_name
  walk_at "go"
  refine ⟨d0, rfl, hp, hs, ?_⟩
  cases d0 with
  | str x =>
    walk_at "go"
    refine x_lenS hs ?_
    have hn : isNm (.str x) = nameS x := rfl
    rw [hn] at h
    walk_at "go"
    refine x_ite (fun h1 => ?_) fun h1 => ?_
    · walk_at "go"
      refine x_iteN (fun h2 => ?_) fun h2 => ?_
      · walk_at "go"
        have q : nameS x = false := by unfold nameS; rw [decide_eq_false (by omega : ¬ x.length ≤ 8)]; simp
        rw [q] at h; exact h
      · walk_at "go"
        have h8 : x.cps.size ≤ 8 := by
          have z := str_len x
          simp at z; omega
        refine x_and (by rw [signs_length, sizeLine_eq]; omega) ?_
        refine comp_mapG (fun c => PV.str ⟨#[c]⟩) (fun c => PV.bl (isLow c)) x.cps.toList [] (fun c _ Q' q => ?_) ?_
        · dsimp only [wipeD, List.set]
          walk_at "go"
          exact ⟨c, rfl, by rw [mem_letters]; exact q⟩
        · rw [List.nil_append]
          walk_at "go"
          refine ⟨_, blsOf_map isLow _, ?_⟩
          have q : nameS x = (x.cps.toList.map isLow).all id := by
            unfold nameS
            rw [decide_eq_true (by omega : 1 ≤ x.length), decide_eq_true (by omega : x.length ≤ 8), List.all_map]
            rfl
          rw [q] at h; exact h
    · walk_at "go"
      have q : nameS x = false := by unfold nameS; rw [decide_eq_false (by omega : ¬ 1 ≤ x.length)]; simp
      rw [q] at h; exact h
  | _ => first | (exfalso; simp [PV.pl] at hp; done) | (walk_at "go"; exact h))
theorem fd_none {x : Str} {st : Stmt} {N ps : List Str} (F : Fx K mg x st ps) (S : FnScope N ps (defScope st)) {p : PSp} (h : ∀ ds w Q, p ds w Q → False) : FD P w K mg base x 1 p := by
  obtain ⟨f, fd, h1, h2, h3⟩ := F
  refine ⟨f, fd, ps, h2, h1.kp, h3, h1.ok S (fun vs H Q E q => ?_) fun cdv A outer s H vs Q E hr q => ?_⟩
  · obtain ⟨Z, ds, w, Q', _, _, q3, _⟩ := q
    exact (h _ _ _ q3).elim
  · obtain ⟨Z, ds, w, Q', _, _, q3, _⟩ := q
    exact (h _ _ _ q3).elim
theorem ok_times (T : Tx K mg) : FD P w K mg base "is_times" 1 qTimes := fd_is_times T (by rintro ds w Q ⟨n, a, b, rfl, _⟩; rfl) (by
  rintro d0 d1 w' Q ⟨n, a, b, e, ha, hb, h⟩
  cases e
  have pa := okD_pl ha
  have pb := okD_pl hb
  have ta : okTy w' d0 := okTy_pl pa
  have tb : okTy w' d1 := okTy_pl pb
  unfold rd_is_times
  walk_at "go"
  unfold forD
  cases d0 with
  | int i =>
    walk_at "go"
    unfold forD
    cases d1 with
    | int j =>
      walk_at "go"
      unfold forD
      walk_at "go"
      have e : isTimes (.int i) (.int j) = (decide (0 ≤ i) && decide (i ≤ j) && decide (j ≤ 6)) := rfl
      rw [e] at h
      refine x_ite (fun h1 => ?_) fun h1 => ?_
      · walk_at "go"
        refine x_ite (fun h2 => ?_) fun h2 => ?_
        · walk_at "go"
          rw [decide_eq_true h1, decide_eq_true h2] at h; exact h
        · walk_at "go"
          rw [decide_eq_false h2, Bool.and_false, Bool.false_and] at h; exact h
      · walk_at "go"
        rw [decide_eq_false h1, Bool.false_and, Bool.false_and] at h; exact h
    | _ => first | (exfalso; simp [PV.pl] at pb; done) | (walk_at "go"; exact h)
  | _ => first | (exfalso; simp [PV.pl] at pa; done) | (walk_at "go"; exact h))
theorem ok_step (T : Tx K mg) : FD P w K mg base "is_step" 3 qStep := fd_is_step T (ok_name T) (Nat.le_refl _) (by rintro ds w Q ⟨n, a, b, rfl, _⟩; rfl) (by
  rintro d0 d1 w' Q ⟨n, a, b, e, ha, hb, h⟩
  cases e
  have pa := okD_pl ha
  have pb := okD_pl hb
  have tb : okTy w' d1 := okTy_pl pb
  unfold rd_is_step
  walk_at "go"
  refine x_isN pa ?_
  cases eN : isNon d0 with
  | true =>
    have q : isStep d0 d1 = isTurn d1 := by unfold isStep; rw [eN]; rfl
    rw [q] at h
    rw [if_pos rfl]
    walk_at "go"
    cases d1 with
    | str z =>
      walk_at "go"
      refine ⟨⟨by simp [PV.pl], by simp [PV.pls, PV.pl], by simp [PV.dep]⟩, ?_⟩
      rw [if_neg (by decide), wTurn]
      exact h
    | _ => first | (exfalso; simp [PV.pl] at pb; done) | (walk_at "go"; exact h)
  | false =>
    rw [if_pos rfl]
    walk_at "go"
    refine ⟨d0, rfl, pa, okD_sz ha, ?_⟩
    cases eM : isNm d0 with
    | true =>
      have q : isStep d0 d1 = isTurn d1 := by unfold isStep; rw [eN, eM]; rfl
      rw [q] at h
      walk_at "go"
      cases d1 with
      | str z =>
        walk_at "go"
        refine ⟨⟨by simp [PV.pl], by simp [PV.pls, PV.pl], by simp [PV.dep]⟩, ?_⟩
        rw [if_neg (by decide), wTurn]
        exact h
      | _ => first | (exfalso; simp [PV.pl] at pb; done) | (walk_at "go"; exact h)
    | false =>
      have q : isStep d0 d1 = false := by unfold isStep; rw [eN, eM]; rfl
      rw [q] at h
      walk_at "go"
      exact h)
end
end Lw

namespace Lw
open PySem L2 Pd
local macro_rules | `(tactic| walk_at "go") => `(tactic| (repeat (first | with_reducible refine x_v0 ?_ | with_reducible refine x_v1 ?_ | with_reducible refine x_v2 ?_ | with_reducible refine x_v3 ?_ | with_reducible refine x_v4 ?_ | with_reducible refine x_v5 ?_ | with_reducible refine x_v6 ?_ | with_reducible refine x_v7 ?_ | with_reducible refine x_v8 ?_ | with_reducible refine x_v9 ?_ | with_reducible refine x_v10 ?_ | with_reducible refine x_v11 ?_ | with_reducible refine x_v12 ?_ | with_reducible refine x_v13 ?_ | with_reducible refine x_v14 ?_ | with_reducible refine x_v15 ?_ | with_reducible refine x_v16 ?_ | with_reducible refine x_v17 ?_ | with_reducible refine x_v18 ?_ | with_reducible refine x_v19 ?_ | with_reducible refine x_v20 ?_ | with_reducible refine x_v21 ?_ | with_reducible refine x_v22 ?_ | with_reducible refine x_v23 ?_ | with_reducible refine x_v24 ?_ | with_reducible refine x_v25 ?_ | with_reducible refine x_seq ?_ | with_reducible refine x_next ?_ | with_reducible refine x_break ?_ | with_reducible refine x_cont ?_ | with_reducible refine x_asg ?_ | with_reducible refine x_drop ?_ | with_reducible refine x_ret ?_ | with_reducible refine x_retN ?_ | with_reducible refine x_if ?_ | with_reducible refine x_for ?_ | with_reducible refine x_name ?_ | with_reducible refine x_gcons ?_ | with_reducible refine x_gnil ?_ | with_reducible refine x_gsubc ?_ | with_reducible refine x_c ?_ | with_reducible refine x_getC ?_ | with_reducible refine x_rgetS ?_ | with_reducible refine x_rgetI ?_ | with_reducible refine x_ixD ?_ | with_reducible refine x_op ?_ | with_reducible refine x_andV ?_ | with_reducible refine x_orV ?_ | with_reducible refine x_notV ?_ | with_reducible refine x_ifE ?_ | with_reducible refine x_neg ?_ | with_reducible refine x_rneg ?_ | with_reducible refine x_chain ?_ | with_reducible refine x_chain3 ?_ | with_reducible refine x_par ?_ | with_reducible refine x_par3 ?_ | with_reducible refine x_onPar ?_ | with_reducible refine x_onPar3 ?_ | with_reducible refine x_tup ?_ | with_reducible refine x_lst ?_ | with_reducible refine x_mlst ?_ | with_reducible refine x_cons ?_ | with_reducible refine x_nil ?_ | with_reducible refine x_cb ?_ | with_reducible refine x_call ?_ | with_reducible refine x_ixc ?_ | with_reducible refine x_rixl ?_ | with_reducible refine x_rixt ?_ | with_reducible refine x_rixz ?_ | with_reducible refine x_sl ?_ | with_reducible refine x_no ?_ | with_reducible refine x_part ?_ | with_reducible refine x_onI ?_ | with_reducible refine x_onB ?_ | with_reducible refine x_onS ?_ | with_reducible refine x_sll ?_ | with_reducible refine x_slz ?_ | with_reducible refine x_slt ?_ | with_reducible refine x_lc ?_ | with_reducible refine x_seqI ?_ | with_reducible refine x_sql ?_ | with_reducible refine x_sqt ?_ | with_reducible refine x_sqz ?_ | with_reducible refine x_sqs ?_ | with_reducible refine x_rng1 ?_ | with_reducible refine x_rng2 ?_ | with_reducible refine x_join ?_ | with_reducible refine x_test ?_ | with_reducible refine x_andT ?_ | with_reducible refine x_orT ?_ | with_reducible refine x_notT ?_ | with_reducible refine x_addI ?_ | with_reducible refine x_sub ?_ | with_reducible refine x_eqI ?_ | with_reducible refine x_neI ?_ | with_reducible refine x_eqS ?_ | with_reducible refine x_neS ?_ | with_reducible refine x_eqB ?_ | with_reducible refine x_ltI ?_ | with_reducible refine x_leI ?_ | with_reducible refine x_gtI ?_ | with_reducible refine x_geI ?_ | with_reducible refine x_ltS ?_ | with_reducible refine x_gtS ?_ | with_reducible refine x_isnt ?_ | with_reducible refine x_isB ?_ | with_reducible refine x_isnB ?_ | with_reducible refine x_lenL ?_ | with_reducible refine x_lenT ?_ | with_reducible refine x_lenZ ?_ | with_reducible refine x_abs ?_ | with_reducible refine x_max ?_ | with_reducible refine x_min ?_ | with_reducible refine x_intI ?_ | with_reducible refine x_intB ?_ | with_reducible refine x_listL ?_ | with_reducible refine x_listT ?_ | with_reducible refine x_tupL ?_ | with_reducible refine x_tupT ?_ | with_reducible refine x_at0 ?_ | with_reducible refine x_at1 ?_ | with_reducible refine x_at2 ?_ | with_reducible refine x_at3 ?_ | with_reducible refine x_at4 ?_ | with_reducible refine x_at5 ?_ | with_reducible refine x_at6 ?_ | with_reducible refine x_rixr (by first | assumption | exact wset_same) ?_ | with_reducible refine x_lenR (by first | assumption | exact wset_same) ?_ | ((with_reducible refine x_rsubc (by first | assumption | exact wset_same) ?_ ?_); (first | (focus (simp; done)) | (focus (simp; omega)))) | ((with_reducible refine x_gtup ?_ ?_); (first | rfl | (focus (simp; done)))) | ((with_reducible refine x_cI ?_ ?_); (first | exact True.intro | assumption)) | ((with_reducible refine x_cI2 ?_ ?_); (first | exact True.intro | assumption)) | ((with_reducible refine x_addL ?_ ?_); (first | (focus (show _ ≤ sizeLine; rw [sizeLine_eq]; simp; done)) | omega)) | ((with_reducible refine x_addT ?_ ?_); (first | (focus (show _ ≤ sizeLine; rw [sizeLine_eq]; simp; done)) | omega)) | ((with_reducible refine x_addS ?_ ?_); (first | (focus (show _ ≤ sizeLine; rw [sizeLine_eq]; simp; done)) | omega)) | ((with_reducible refine x_mod ?_ ?_); (first | omega | assumption)) | ((with_reducible refine x_fdiv ?_ ?_ ?_); (first | omega | assumption); (first | omega | assumption)) | ((with_reducible refine x_mul ?_ ?_); (first | (left; omega) | (right; omega))) | ((with_reducible refine x_pow ?_ ?_ ?_ ?_); decide; decide; decide; (try simp only [Int.reduceToNat, Int.reducePow])) | ((with_reducible refine x_and ?_ ?_); (first | (focus (show _ ≤ sizeLine; rw [sizeLine_eq]; simp; done)) | omega)) | ((with_reducible refine x_rrng1 ?_ ?_ ?_); omega; omega) | ((with_reducible refine x_iteT ?_ ?_); (first | omega | assumption)) | ((with_reducible refine x_iteF ?_ ?_); (first | omega | assumption)) | ((with_reducible refine x_iteNT ?_ ?_); (first | omega | assumption)) | ((with_reducible refine x_iteNF ?_ ?_); (first | omega | assumption)) | with_reducible refine x_iTrue ?_ | with_reducible refine x_iFalse ?_ | with_reducible refine L2.iteT ?_ | with_reducible refine L2.iteF ?_ | simp only [wset_wset] | ((with_reducible refine x_iteV ?_ ?_); focus (first | rfl | assumption)) | ((with_reducible refine x_iteW ?_ ?_); focus (first | rfl | assumption)) | ((with_reducible refine x_iteNV ?_ ?_); focus (first | rfl | assumption)) | ((with_reducible refine x_iteNW ?_ ?_); focus (first | rfl | assumption)) | dsimp only [List.set])))
section
variable {P : Program} {w : World} {K : Frag} {mg : Str → Option Value} {base : Heap}
theorem ok_way (T : Tx K mg) : ∀ n : Nat, FD P w K mg base "is_way" (n + 4) (qW n)
  | 0 => (fd_none T.f_is_way sc_is_way (by rintro ds w Q ⟨d, _, h, _⟩; simp [okD] at h)).mono (by omega)
  | n + 1 => fd_is_way T (ok_way T n) (Nat.le_refl _) (ok_times T) (by omega) (ok_step T) (by omega) (by rintro ds w Q ⟨d, rfl, _⟩; rfl) (by
    rintro d0 w' Q ⟨d, e, hd, h⟩
    cases e
    unfold rd_is_way
    cases d0 with
    | tup ds =>
      have hd' := hd
      simp only [okD, Bool.and_eq_true, List.all_eq_true, decide_eq_true_eq] at hd'
      obtain ⟨hl, ha⟩ := hd'
      cases ds with
      | nil => walk_at "go"; exact h
      | cons x r =>
        have hx := ha x (List.mem_cons_self ..)
        cases x with
        | str z =>
          walk_at "go"
          rw [wStep]
          refine x_ite (fun h1 => ?_) fun h1 => ?_
          · walk_at "go"
            refine x_ite (fun h3 => ?_) fun h3 => ?_
            · match r, h3, ha, h with
              | [a, b], _, ha, h =>
                walk_at "go"
                refine ⟨n, a, b, rfl, ha a (by simp), ha b (by simp), ?_⟩
                rw [isW_s, h1] at h; exact h
              | [], h3, _, _ => simp at h3
              | [_], h3, _, _ => simp at h3
              | _ :: _ :: _ :: _, h3, _, _ => simp at h3; omega
            · have q : isW (n + 1) (.tup (.str z :: r)) = false := by
                rw [isW_s, h1]
                match r, h3 with
                | [], _ => rfl
                | [_], _ => rfl
                | [_, _], h3 => simp at h3
                | _ :: _ :: _ :: _, _ => rfl
              rw [q] at h; walk_at "go"; exact h
          walk_at "go"
          rw [wEmpty]
          refine x_ite (fun h2 => ?_) fun h2 => ?_
          · walk_at "go"
            have q : isW (n + 1) (.tup (.str z :: r)) = decide (((PV.str z :: r).length : Int) = 1) := by
              rw [isW_s, h2]
              cases r with
              | nil => rfl
              | cons a r => simp; omega
            rw [q] at h; exact h
          walk_at "go"
          refine ⟨⟨by simp [PV.pl], by simp [PV.pls, PV.pl], by simp [PV.dep]⟩, ?_⟩
          rw [if_neg (by decide), wThen]
          walk_at "go"
          refine x_ite (fun h4 => ?_) fun h4 => ?_
          · walk_at "go"
            refine x_ite (fun h3 => ?_) fun h3 => ?_
            · match r, h3, ha, h with
              | [a, b], _, ha, h =>
                walk_at "go"
                refine ⟨a, rfl, ha a (by simp), ?_⟩
                rw [isW_s, h4] at h
                replace h : Q (.bl (isW n a && isW n b)) w' := h
                cases ea : isW n a with
                | true => walk_at "go"; refine ⟨b, rfl, ha b (by simp), ?_⟩; rw [ea, Bool.true_and] at h; exact h
                | false => walk_at "go"; rw [ea, Bool.false_and] at h; exact h
              | [], h3, _, _ => simp at h3
              | [_], h3, _, _ => simp at h3
              | _ :: _ :: _ :: _, h3, _, _ => simp at h3; omega
            · have q : isW (n + 1) (.tup (.str z :: r)) = false := by
                rw [isW_s, h4]
                match r, h3 with
                | [], _ => rfl
                | [_], _ => rfl
                | [_, _], h3 => simp at h3
                | _ :: _ :: _ :: _, _ => rfl
              rw [q] at h; walk_at "go"; exact h
          walk_at "go"
          rw [wAgain]
          refine x_ite (fun h5 => ?_) fun h5 => ?_
          · walk_at "go"
            refine x_ite (fun h3 => ?_) fun h3 => ?_
            · match r, h3, ha, h with
              | [a], _, ha, h =>
                walk_at "go"
                refine ⟨a, rfl, ha a (by simp), ?_⟩
                rw [isW_s, h5] at h; exact h
              | [], h3, _, _ => simp at h3
              | _ :: _ :: _, h3, _, _ => simp at h3; omega
            · have q : isW (n + 1) (.tup (.str z :: r)) = false := by
                rw [isW_s, h5]
                match r, h3 with
                | [], _ => rfl
                | [_], h3 => simp at h3
                | _ :: _ :: _, _ => rfl
              rw [q] at h; walk_at "go"; exact h
          walk_at "go"
          rw [wMany]
          refine x_ite (fun h6 => ?_) fun h6 => ?_
          · walk_at "go"
            refine x_ite (fun h3 => ?_) fun h3 => ?_
            · match r, h3, ha, h with
              | [a, b, c], _, ha, h =>
                walk_at "go"
                refine ⟨n, b, c, rfl, ha b (by simp), ha c (by simp), ?_⟩
                rw [isW_s, h6] at h
                replace h : Q (.bl (isTimes b c && isW n a)) w' := h
                cases ea : isTimes b c with
                | true => walk_at "go"; refine ⟨a, rfl, ha a (by simp), ?_⟩; rw [ea, Bool.true_and] at h; exact h
                | false => walk_at "go"; rw [ea, Bool.false_and] at h; exact h
              | [], h3, _, _ => simp at h3
              | [_], h3, _, _ => simp at h3
              | [_, _], h3, _, _ => simp at h3
              | _ :: _ :: _ :: _ :: _, h3, _, _ => simp at h3; omega
            · have q : isW (n + 1) (.tup (.str z :: r)) = false := by
                rw [isW_s, h6]
                match r, h3 with
                | [], _ => rfl
                | [_], _ => rfl
                | [_, _], _ => rfl
                | [_, _, _], h3 => simp at h3
                | _ :: _ :: _ :: _ :: _, _ => rfl
              rw [q] at h; walk_at "go"; exact h
          · have q : isW (n + 1) (.tup (.str z :: r)) = false := by
              rw [isW_s]
              generalize wk z = c at h1 h2 h4 h5 h6
              match c, h1, h2, h4, h5, h6 with
              | 0, h, _, _, _, _ => exact (h rfl).elim
              | 1, _, h, _, _, _ => exact (h rfl).elim
              | 2, _, _, h, _, _ => exact (h rfl).elim
              | 3, _, _, _, h, _ => exact (h rfl).elim
              | 4, _, _, _, _, h => exact (h rfl).elim
              | c + 5, _, _, _, _, _ => rfl
            rw [q] at h; walk_at "go"; exact h
        | _ => first | (have hp := okD_pl hx; exfalso; simp [PV.pl] at hp; done) | (walk_at "go"; exact h) | (have to : okTy w' _ := okTy_pl (okD_pl hx); walk_at "go"; exact h)
    | _ => first | (have hp := okD_pl hd; exfalso; simp [PV.pl] at hp; done) | (walk_at "go"; exact h))
end
end Lw

namespace Lw
open PySem L2 Pd
local macro_rules | `(tactic| walk_at "go") => `(tactic| (repeat (first | with_reducible refine x_v0 ?_ | with_reducible refine x_v1 ?_ | with_reducible refine x_v2 ?_ | with_reducible refine x_v3 ?_ | with_reducible refine x_v4 ?_ | with_reducible refine x_v5 ?_ | with_reducible refine x_v6 ?_ | with_reducible refine x_v7 ?_ | with_reducible refine x_v8 ?_ | with_reducible refine x_v9 ?_ | with_reducible refine x_v10 ?_ | with_reducible refine x_v11 ?_ | with_reducible refine x_v12 ?_ | with_reducible refine x_v13 ?_ | with_reducible refine x_v14 ?_ | with_reducible refine x_v15 ?_ | with_reducible refine x_v16 ?_ | with_reducible refine x_v17 ?_ | with_reducible refine x_v18 ?_ | with_reducible refine x_v19 ?_ | with_reducible refine x_v20 ?_ | with_reducible refine x_v21 ?_ | with_reducible refine x_v22 ?_ | with_reducible refine x_v23 ?_ | with_reducible refine x_v24 ?_ | with_reducible refine x_v25 ?_ | with_reducible refine x_seq ?_ | with_reducible refine x_next ?_ | with_reducible refine x_break ?_ | with_reducible refine x_cont ?_ | with_reducible refine x_asg ?_ | with_reducible refine x_drop ?_ | with_reducible refine x_ret ?_ | with_reducible refine x_retN ?_ | with_reducible refine x_if ?_ | with_reducible refine x_for ?_ | with_reducible refine x_name ?_ | with_reducible refine x_gcons ?_ | with_reducible refine x_gnil ?_ | with_reducible refine x_gsubc ?_ | with_reducible refine x_c ?_ | with_reducible refine x_getC ?_ | with_reducible refine x_rgetS ?_ | with_reducible refine x_rgetI ?_ | with_reducible refine x_ixD ?_ | with_reducible refine x_op ?_ | with_reducible refine x_andV ?_ | with_reducible refine x_orV ?_ | with_reducible refine x_notV ?_ | with_reducible refine x_ifE ?_ | with_reducible refine x_neg ?_ | with_reducible refine x_rneg ?_ | with_reducible refine x_chain ?_ | with_reducible refine x_chain3 ?_ | with_reducible refine x_par ?_ | with_reducible refine x_par3 ?_ | with_reducible refine x_onPar ?_ | with_reducible refine x_onPar3 ?_ | with_reducible refine x_tup ?_ | with_reducible refine x_lst ?_ | with_reducible refine x_mlst ?_ | with_reducible refine x_cons ?_ | with_reducible refine x_nil ?_ | with_reducible refine x_cb ?_ | with_reducible refine x_call ?_ | with_reducible refine x_ixc ?_ | with_reducible refine x_rixl ?_ | with_reducible refine x_rixt ?_ | with_reducible refine x_rixz ?_ | with_reducible refine x_sl ?_ | with_reducible refine x_no ?_ | with_reducible refine x_part ?_ | with_reducible refine x_onI ?_ | with_reducible refine x_onB ?_ | with_reducible refine x_onS ?_ | with_reducible refine x_sll ?_ | with_reducible refine x_slz ?_ | with_reducible refine x_slt ?_ | with_reducible refine x_lc ?_ | with_reducible refine x_seqI ?_ | with_reducible refine x_sql ?_ | with_reducible refine x_sqt ?_ | with_reducible refine x_sqz ?_ | with_reducible refine x_sqs ?_ | with_reducible refine x_rng1 ?_ | with_reducible refine x_rng2 ?_ | with_reducible refine x_join ?_ | with_reducible refine x_test ?_ | with_reducible refine x_andT ?_ | with_reducible refine x_orT ?_ | with_reducible refine x_notT ?_ | with_reducible refine x_addI ?_ | with_reducible refine x_sub ?_ | with_reducible refine x_eqI ?_ | with_reducible refine x_neI ?_ | with_reducible refine x_eqS ?_ | with_reducible refine x_neS ?_ | with_reducible refine x_eqB ?_ | with_reducible refine x_ltI ?_ | with_reducible refine x_leI ?_ | with_reducible refine x_gtI ?_ | with_reducible refine x_geI ?_ | with_reducible refine x_ltS ?_ | with_reducible refine x_gtS ?_ | with_reducible refine x_isnt ?_ | with_reducible refine x_isB ?_ | with_reducible refine x_isnB ?_ | with_reducible refine x_lenL ?_ | with_reducible refine x_lenT ?_ | with_reducible refine x_lenZ ?_ | with_reducible refine x_abs ?_ | with_reducible refine x_max ?_ | with_reducible refine x_min ?_ | with_reducible refine x_intI ?_ | with_reducible refine x_intB ?_ | with_reducible refine x_listL ?_ | with_reducible refine x_listT ?_ | with_reducible refine x_tupL ?_ | with_reducible refine x_tupT ?_ | with_reducible refine x_at0 ?_ | with_reducible refine x_at1 ?_ | with_reducible refine x_at2 ?_ | with_reducible refine x_at3 ?_ | with_reducible refine x_at4 ?_ | with_reducible refine x_at5 ?_ | with_reducible refine x_at6 ?_ | with_reducible refine x_rixr (by first | assumption | exact wset_same) ?_ | with_reducible refine x_lenR (by first | assumption | exact wset_same) ?_ | ((with_reducible refine x_rsubc (by first | assumption | exact wset_same) ?_ ?_); (first | (focus (simp; done)) | (focus (simp; omega)))) | ((with_reducible refine x_gtup ?_ ?_); (first | rfl | (focus (simp; done)))) | ((with_reducible refine x_cI ?_ ?_); (first | exact True.intro | assumption)) | ((with_reducible refine x_cI2 ?_ ?_); (first | exact True.intro | assumption)) | ((with_reducible refine x_addL ?_ ?_); (first | (focus (show _ ≤ sizeLine; rw [sizeLine_eq]; simp; done)) | omega)) | ((with_reducible refine x_addT ?_ ?_); (first | (focus (show _ ≤ sizeLine; rw [sizeLine_eq]; simp; done)) | omega)) | ((with_reducible refine x_addS ?_ ?_); (first | (focus (show _ ≤ sizeLine; rw [sizeLine_eq]; simp; done)) | omega)) | ((with_reducible refine x_mod ?_ ?_); (first | omega | assumption)) | ((with_reducible refine x_fdiv ?_ ?_ ?_); (first | omega | assumption); (first | omega | assumption)) | ((with_reducible refine x_mul ?_ ?_); (first | (left; omega) | (right; omega))) | ((with_reducible refine x_pow ?_ ?_ ?_ ?_); decide; decide; decide; (try simp only [Int.reduceToNat, Int.reducePow])) | ((with_reducible refine x_and ?_ ?_); (first | (focus (show _ ≤ sizeLine; rw [sizeLine_eq]; simp; done)) | omega)) | ((with_reducible refine x_rrng1 ?_ ?_ ?_); omega; omega) | ((with_reducible refine x_iteT ?_ ?_); (first | omega | assumption)) | ((with_reducible refine x_iteF ?_ ?_); (first | omega | assumption)) | ((with_reducible refine x_iteNT ?_ ?_); (first | omega | assumption)) | ((with_reducible refine x_iteNF ?_ ?_); (first | omega | assumption)) | with_reducible refine x_iTrue ?_ | with_reducible refine x_iFalse ?_ | with_reducible refine L2.iteT ?_ | with_reducible refine L2.iteF ?_ | simp only [wset_wset] | ((with_reducible refine x_iteV ?_ ?_); focus (first | rfl | assumption)) | ((with_reducible refine x_iteW ?_ ?_); focus (first | rfl | assumption)) | ((with_reducible refine x_iteNV ?_ ?_); focus (first | rfl | assumption)) | ((with_reducible refine x_iteNW ?_ ?_); focus (first | rfl | assumption)) | dsimp only [List.set])))
section
variable {P : Program} {w : World} {K : Frag} {mg : Str → Option Value} {base : Heap}
def isTm : PV → Bool
  | .int i => decide (0 ≤ i) && decide (i ≤ 6)
  | _ => false
theorem ok_lname (T : Tx K mg) : FD P w K mg base "_law_is_name" 1 (qOf isNm) := fd__law_is_name T (by rintro ds w Q ⟨d, rfl, _⟩; rfl) (by
  rintro d0 w' Q ⟨d, e, hp, hs, h⟩
  cases e
  unfold rd__law_is_name
  cases d0 with
  | str x =>
    have hn : isNm (.str x) = nameS x := rfl
    rw [hn] at h
    walk_at "go"
    refine x_lenS hs ?_
    walk_at "go"
    refine x_ite (fun h1 => ?_) fun h1 => ?_
    · walk_at "go"
      refine x_ite (fun h2 => ?_) fun h2 => ?_
      · walk_at "go"
        have h8 : x.cps.size ≤ 8 := by
          have z := str_len x
          simp at z; omega
        refine x_and (by rw [signs_length, sizeLine_eq]; omega) ?_
        refine comp_mapG (fun c => PV.str ⟨#[c]⟩) (fun c => PV.bl (isLow c)) x.cps.toList [] (fun c _ Q' q => ?_) ?_
        · dsimp only [wipeD, List.set]
          walk_at "go"
          exact ⟨c, rfl, by rw [mem_letters]; exact q⟩
        · rw [List.nil_append]
          walk_at "go"
          refine ⟨_, blsOf_map isLow _, ?_⟩
          have q : nameS x = (x.cps.toList.map isLow).all id := by
            unfold nameS
            rw [decide_eq_true (by omega : 1 ≤ x.length), decide_eq_true (by omega : x.length ≤ 8), List.all_map]
            rfl
          rw [q] at h; exact h
      · walk_at "go"
        have q : nameS x = false := by unfold nameS; rw [decide_eq_false (by omega : ¬ x.length ≤ 8)]; simp
        rw [q] at h; exact h
    · walk_at "go"
      have q : nameS x = false := by unfold nameS; rw [decide_eq_false (by omega : ¬ 1 ≤ x.length)]; simp
      rw [q] at h; exact h
  | _ => first | (exfalso; simp [PV.pl] at hp; done) | (walk_at "go"; exact h))
theorem ok_ltimes (T : Tx K mg) : FD P w K mg base "_law_is_times" 1 (qOf isTm) := fd__law_is_times T (by rintro ds w Q ⟨d, rfl, _⟩; rfl) (by
  rintro d0 w' Q ⟨d, e, hp, hs, h⟩
  cases e
  unfold rd__law_is_times
  cases d0 with
  | int i =>
    have e : isTm (.int i) = (decide (0 ≤ i) && decide (i ≤ 6)) := rfl
    rw [e] at h
    walk_at "go"
    refine x_ite (fun h1 => ?_) fun h1 => ?_
    · rw [decide_eq_true h1, Bool.true_and] at h; walk_at "go"; exact h
    · rw [decide_eq_false h1, Bool.false_and] at h; walk_at "go"; exact h
  | _ => first | (exfalso; simp [PV.pl] at hp; done) | (walk_at "go"; exact h))
theorem isTimes_l {a b : PV} (h : isTm a = false) : isTimes a b = false := by
  cases a <;> cases b <;> try rfl
  rename_i i j
  unfold isTm at h
  simp only [isTimes]
  rw [Bool.and_eq_false_iff] at h
  rcases h with h | h
  · rw [h]; rfl
  · have := of_decide_eq_false h
    rw [Bool.and_eq_false_iff, Bool.and_eq_false_iff]
    by_cases c : i ≤ j
    · exact .inr (decide_eq_false (by omega))
    · exact .inl (.inr (decide_eq_false c))
theorem isTimes_r {a b : PV} (h : isTm b = false) : isTimes a b = false := by
  cases a <;> cases b <;> try rfl
  rename_i i j
  unfold isTm at h
  simp only [isTimes]
  rw [Bool.and_eq_false_iff] at h
  rcases h with h | h
  · have := of_decide_eq_false h
    rw [Bool.and_eq_false_iff, Bool.and_eq_false_iff]
    by_cases c : 0 ≤ i
    · exact .inl (.inr (decide_eq_false (by omega)))
    · exact .inl (.inl (decide_eq_false c))
  · rw [h, Bool.and_false]
theorem isTm_int {a : PV} (h : isTm a = true) : ∃ i : Int, a = .int i ∧ 0 ≤ i ∧ i ≤ 6 := by
  cases a <;> simp [isTm] at h
  exact ⟨_, rfl, h.1, h.2⟩
theorem cutD_tail {α : Type} (x : α) (r : List α) : cutD (x :: r) (some 1) none = r := by
  have e1 : HT.sIx (x :: r).length 0 (some 1) = 1 := by unfold HT.sIx; simp <;> omega
  have e2 : HT.sIx (x :: r).length (x :: r).length none = (x :: r).length := rfl
  unfold cutD
  rw [e1, e2]
  simp
theorem isW_due {n : Nat} {z : Str} {r : List PV} (h0 : wk z ≠ 0) (h4 : wk z ≠ 4) : isW (n + 1) (.tup (.str z :: r)) = (decide (((PV.str z :: r).length : Int) = wSize (wk z)) && (r.map (isW n)).all id) := by
  rw [isW_s]
  generalize wk z = c at h0 h4
  match c, h0, h4 with
  | 0, h, _ => exact (h rfl).elim
  | 4, _, h => exact (h rfl).elim
  | 1, _, _ =>
    match r with
    | [] => rfl
    | _ :: _ => rw [decide_eq_false (by simp [wSize]; omega)]; rfl
  | 2, _, _ =>
    match r with
    | [] => rw [decide_eq_false (by simp [wSize])]; rfl
    | [_] => rw [decide_eq_false (by simp [wSize])]; rfl
    | [a, b] => simp [wSize]
    | _ :: _ :: _ :: _ => rw [decide_eq_false (by simp [wSize]; omega)]; rfl
  | 3, _, _ =>
    match r with
    | [] => rw [decide_eq_false (by simp [wSize])]; rfl
    | [a] => simp [wSize]
    | _ :: _ :: _ => rw [decide_eq_false (by simp [wSize]; omega)]; rfl
  | c + 5, _, _ => rw [decide_eq_false (by simp [wSize]; omega)]; rfl
theorem ok_due (T : Tx K mg) : ∀ n : Nat, FD P w K mg base "_law_due" (n + 2) (qW n)
  | 0 => (fd_none T.f__law_due sc__law_due (by rintro ds w Q ⟨d, _, h, _⟩; simp [okD] at h)).mono (by omega)
  | n + 1 => fd__law_due T (ok_due T n) (Nat.le_refl _) (ok_ltimes T) (by omega) (ok_lname T) (by omega) (by rintro ds w Q ⟨d, rfl, _⟩; rfl) (by
    rintro d0 w' Q ⟨d, e, hd, h⟩
    cases e
    unfold rd__law_due
    cases d0 with
    | tup ds =>
      have hd' := hd
      simp only [okD, Bool.and_eq_true, List.all_eq_true, decide_eq_true_eq] at hd'
      obtain ⟨hl, ha⟩ := hd'
      cases ds with
      | nil => walk_at "go"; exact h
      | cons x r =>
        have hx := ha x (List.mem_cons_self ..)
        cases x with
        | str z =>
          have hl' : r.length ≤ 7 := by simpa using hl
          walk_at "go"
          rw [wStep]
          refine x_ite (fun h1 => ?_) fun h1 => ?_
          · walk_at "go"
            refine x_ite (fun h3 => ?_) fun h3 => ?_
            · match r, h3, ha, h with
              | [a, b], _, ha, h =>
                have pa := okD_pl (ha a (by simp))
                have pb := okD_pl (ha b (by simp))
                have tb : okTy w' b := okTy_pl pb
                rw [isW_s, h1] at h
                replace h : Q (.bl (isStep a b)) w' := h
                walk_at "go"
                refine x_isN pa ?_
                rw [if_neg (by decide)]
                cases eN : isNon a with
                | true =>
                  have q : isStep a b = isTurn b := by unfold isStep; rw [eN]; rfl
                  rw [q] at h
                  walk_at "go"
                  cases b with
                  | str y =>
                    walk_at "go"
                    refine ⟨⟨by simp [PV.pl], by simp [PV.pls, PV.pl], by simp [PV.dep]⟩, ?_⟩
                    rw [if_neg (by decide), wTurn]
                    exact h
                  | _ => first | (exfalso; simp [PV.pl] at pb; done) | (walk_at "go"; exact h)
                | false =>
                  walk_at "go"
                  refine ⟨a, rfl, pa, okD_sz (ha a (by simp)), ?_⟩
                  cases eM : isNm a with
                  | true =>
                    have q : isStep a b = isTurn b := by unfold isStep; rw [eN, eM]; rfl
                    rw [q] at h
                    walk_at "go"
                    cases b with
                    | str y =>
                      walk_at "go"
                      refine ⟨⟨by simp [PV.pl], by simp [PV.pls, PV.pl], by simp [PV.dep]⟩, ?_⟩
                      rw [if_neg (by decide), wTurn]
                      exact h
                    | _ => first | (exfalso; simp [PV.pl] at pb; done) | (walk_at "go"; exact h)
                  | false =>
                    have q : isStep a b = false := by unfold isStep; rw [eN, eM]; rfl
                    rw [q] at h
                    walk_at "go"
                    exact h
              | [], h3, _, _ => simp at h3
              | [_], h3, _, _ => simp at h3
              | _ :: _ :: _ :: _, h3, _, _ => simp at h3; omega
            · have q : isW (n + 1) (.tup (.str z :: r)) = false := by
                rw [isW_s, h1]
                match r, h3 with
                | [a, b], h3 => simp at h3
                | [], _ => rfl
                | [_], _ => rfl
                | _ :: _ :: _ :: _, _ => rfl
              walk_at "go"
              rw [wMany]
              walk_at "go"
              rw [wGet, h1]
              walk_at "go"
              rw [q] at h; exact h
          walk_at "go"
          rw [wMany]
          refine x_ite (fun h2 => ?_) fun h2 => ?_
          · walk_at "go"
            refine x_ite (fun h3 => ?_) fun h3 => ?_
            · match r, h3, ha, h with
              | [a, b, c], _, ha, h =>
                rw [isW_s, h2] at h
                replace h : Q (.bl (isTimes b c && isW n a)) w' := h
                walk_at "go"
                refine ⟨b, rfl, okD_pl (ha b (by simp)), okD_sz (ha b (by simp)), ?_⟩
                cases eb : isTm b with
                | false => walk_at "go"; rw [isTimes_l eb, Bool.false_and] at h; exact h
                | true =>
                  walk_at "go"
                  refine ⟨c, rfl, okD_pl (ha c (by simp)), okD_sz (ha c (by simp)), ?_⟩
                  cases ec : isTm c with
                  | false => walk_at "go"; rw [isTimes_r ec, Bool.false_and] at h; exact h
                  | true =>
                    obtain ⟨i, rfl, i0, i6⟩ := isTm_int eb
                    obtain ⟨j, rfl, j0, j6⟩ := isTm_int ec
                    have q : isTimes (.int i) (.int j) = decide (i ≤ j) := by
                      simp only [isTimes]; rw [decide_eq_true i0, decide_eq_true j6]; simp
                    rw [q] at h
                    walk_at "go"
                    refine x_ite (fun h5 => ?_) fun h5 => ?_
                    · rw [decide_eq_true h5, Bool.true_and] at h
                      walk_at "go"
                      exact ⟨a, rfl, ha a (by simp), h⟩
                    · rw [decide_eq_false h5, Bool.false_and] at h
                      walk_at "go"
                      exact h
              | [], h3, _, _ => simp at h3
              | [_], h3, _, _ => simp at h3
              | [_, _], h3, _, _ => simp at h3
              | _ :: _ :: _ :: _ :: _, h3, _, _ => simp at h3; omega
            · have q : isW (n + 1) (.tup (.str z :: r)) = false := by
                rw [isW_s, h2]
                match r, h3 with
                | [a, b, c], h3 => simp at h3
                | [], _ => rfl
                | [_], _ => rfl
                | [_, _], _ => rfl
                | _ :: _ :: _ :: _ :: _, _ => rfl
              walk_at "go"
              rw [wGet, h2]
              walk_at "go"
              rw [q] at h; exact h
          walk_at "go"
          rw [wGet]
          walk_at "go"
          rw [isW_due h1 h2] at h
          refine x_ite (fun h3 => ?_) fun h3 => ?_
          · rw [decide_eq_true h3, Bool.true_and] at h
            walk_at "go"
            rw [cutD_tail]
            refine x_and (by rw [sizeLine_eq]; omega) ?_
            refine comp_map (fun d => PV.bl (isW n d)) r [] (fun d hd Q' q => ?_) ?_
            · dsimp only [wipeD, List.set]
              walk_at "go"
              exact ⟨d, rfl, ha d (List.mem_cons_of_mem _ hd), q⟩
            · rw [List.nil_append]
              walk_at "go"
              exact ⟨_, blsOf_map (isW n) _, h⟩
          · rw [decide_eq_false h3, Bool.false_and] at h
            walk_at "go"
            exact h
        | _ => first | (have hp := okD_pl hx; exfalso; simp [PV.pl] at hp; done) | (walk_at "go"; exact h) | (have to : okTy w' _ := okTy_pl (okD_pl hx); walk_at "go"; exact h)
    | _ => first | (have hp := okD_pl hd; exfalso; simp [PV.pl] at hp; done) | (walk_at "go"; exact h))
end
end Lw

namespace Lw
open PySem L2 Pd
local macro_rules | `(tactic| walk_at "go") => `(tactic| (repeat (first | with_reducible refine x_v0 ?_ | with_reducible refine x_v1 ?_ | with_reducible refine x_v2 ?_ | with_reducible refine x_v3 ?_ | with_reducible refine x_v4 ?_ | with_reducible refine x_v5 ?_ | with_reducible refine x_v6 ?_ | with_reducible refine x_v7 ?_ | with_reducible refine x_v8 ?_ | with_reducible refine x_v9 ?_ | with_reducible refine x_v10 ?_ | with_reducible refine x_v11 ?_ | with_reducible refine x_v12 ?_ | with_reducible refine x_v13 ?_ | with_reducible refine x_v14 ?_ | with_reducible refine x_v15 ?_ | with_reducible refine x_v16 ?_ | with_reducible refine x_v17 ?_ | with_reducible refine x_v18 ?_ | with_reducible refine x_v19 ?_ | with_reducible refine x_v20 ?_ | with_reducible refine x_v21 ?_ | with_reducible refine x_v22 ?_ | with_reducible refine x_v23 ?_ | with_reducible refine x_v24 ?_ | with_reducible refine x_v25 ?_ | with_reducible refine x_seq ?_ | with_reducible refine x_next ?_ | with_reducible refine x_break ?_ | with_reducible refine x_cont ?_ | with_reducible refine x_asg ?_ | with_reducible refine x_drop ?_ | with_reducible refine x_ret ?_ | with_reducible refine x_retN ?_ | with_reducible refine x_if ?_ | with_reducible refine x_for ?_ | with_reducible refine x_name ?_ | with_reducible refine x_gcons ?_ | with_reducible refine x_gnil ?_ | with_reducible refine x_gsubc ?_ | with_reducible refine x_c ?_ | with_reducible refine x_getC ?_ | with_reducible refine x_rgetS ?_ | with_reducible refine x_rgetI ?_ | with_reducible refine x_ixD ?_ | with_reducible refine x_op ?_ | with_reducible refine x_andV ?_ | with_reducible refine x_orV ?_ | with_reducible refine x_notV ?_ | with_reducible refine x_ifE ?_ | with_reducible refine x_neg ?_ | with_reducible refine x_rneg ?_ | with_reducible refine x_chain ?_ | with_reducible refine x_chain3 ?_ | with_reducible refine x_par ?_ | with_reducible refine x_par3 ?_ | with_reducible refine x_onPar ?_ | with_reducible refine x_onPar3 ?_ | with_reducible refine x_tup ?_ | with_reducible refine x_lst ?_ | with_reducible refine x_mlst ?_ | with_reducible refine x_cons ?_ | with_reducible refine x_nil ?_ | with_reducible refine x_cb ?_ | with_reducible refine x_call ?_ | with_reducible refine x_ixc ?_ | with_reducible refine x_rixl ?_ | with_reducible refine x_rixt ?_ | with_reducible refine x_rixz ?_ | with_reducible refine x_sl ?_ | with_reducible refine x_no ?_ | with_reducible refine x_part ?_ | with_reducible refine x_onI ?_ | with_reducible refine x_onB ?_ | with_reducible refine x_onS ?_ | with_reducible refine x_sll ?_ | with_reducible refine x_slz ?_ | with_reducible refine x_slt ?_ | with_reducible refine x_lc ?_ | with_reducible refine x_seqI ?_ | with_reducible refine x_sql ?_ | with_reducible refine x_sqt ?_ | with_reducible refine x_sqz ?_ | with_reducible refine x_sqs ?_ | with_reducible refine x_rng1 ?_ | with_reducible refine x_rng2 ?_ | with_reducible refine x_join ?_ | with_reducible refine x_test ?_ | with_reducible refine x_andT ?_ | with_reducible refine x_orT ?_ | with_reducible refine x_notT ?_ | with_reducible refine x_addI ?_ | with_reducible refine x_sub ?_ | with_reducible refine x_eqI ?_ | with_reducible refine x_neI ?_ | with_reducible refine x_eqS ?_ | with_reducible refine x_neS ?_ | with_reducible refine x_eqB ?_ | with_reducible refine x_ltI ?_ | with_reducible refine x_leI ?_ | with_reducible refine x_gtI ?_ | with_reducible refine x_geI ?_ | with_reducible refine x_ltS ?_ | with_reducible refine x_gtS ?_ | with_reducible refine x_isnt ?_ | with_reducible refine x_isB ?_ | with_reducible refine x_isnB ?_ | with_reducible refine x_lenL ?_ | with_reducible refine x_lenT ?_ | with_reducible refine x_lenZ ?_ | with_reducible refine x_abs ?_ | with_reducible refine x_max ?_ | with_reducible refine x_min ?_ | with_reducible refine x_intI ?_ | with_reducible refine x_intB ?_ | with_reducible refine x_listL ?_ | with_reducible refine x_listT ?_ | with_reducible refine x_tupL ?_ | with_reducible refine x_tupT ?_ | with_reducible refine x_at0 ?_ | with_reducible refine x_at1 ?_ | with_reducible refine x_at2 ?_ | with_reducible refine x_at3 ?_ | with_reducible refine x_at4 ?_ | with_reducible refine x_at5 ?_ | with_reducible refine x_at6 ?_ | with_reducible refine x_rixr (by first | assumption | exact wset_same) ?_ | with_reducible refine x_lenR (by first | assumption | exact wset_same) ?_ | ((with_reducible refine x_rsubc (by first | assumption | exact wset_same) ?_ ?_); (first | (focus (simp; done)) | (focus (simp; omega)))) | ((with_reducible refine x_gtup ?_ ?_); (first | rfl | (focus (simp; done)))) | ((with_reducible refine x_cI ?_ ?_); (first | exact True.intro | assumption)) | ((with_reducible refine x_cI2 ?_ ?_); (first | exact True.intro | assumption)) | ((with_reducible refine x_addL ?_ ?_); (first | (focus (show _ ≤ sizeLine; rw [sizeLine_eq]; simp; done)) | omega)) | ((with_reducible refine x_addT ?_ ?_); (first | (focus (show _ ≤ sizeLine; rw [sizeLine_eq]; simp; done)) | omega)) | ((with_reducible refine x_addS ?_ ?_); (first | (focus (show _ ≤ sizeLine; rw [sizeLine_eq]; simp; done)) | omega)) | ((with_reducible refine x_mod ?_ ?_); (first | omega | assumption)) | ((with_reducible refine x_fdiv ?_ ?_ ?_); (first | omega | assumption); (first | omega | assumption)) | ((with_reducible refine x_mul ?_ ?_); (first | (left; omega) | (right; omega))) | ((with_reducible refine x_pow ?_ ?_ ?_ ?_); decide; decide; decide; (try simp only [Int.reduceToNat, Int.reducePow])) | ((with_reducible refine x_and ?_ ?_); (first | (focus (show _ ≤ sizeLine; rw [sizeLine_eq]; simp; done)) | omega)) | ((with_reducible refine x_rrng1 ?_ ?_ ?_); omega; omega) | ((with_reducible refine x_iteT ?_ ?_); (first | omega | assumption)) | ((with_reducible refine x_iteF ?_ ?_); (first | omega | assumption)) | ((with_reducible refine x_iteNT ?_ ?_); (first | omega | assumption)) | ((with_reducible refine x_iteNF ?_ ?_); (first | omega | assumption)) | with_reducible refine x_iTrue ?_ | with_reducible refine x_iFalse ?_ | with_reducible refine L2.iteT ?_ | with_reducible refine L2.iteF ?_ | simp only [wset_wset] | ((with_reducible refine x_iteV ?_ ?_); focus (first | rfl | assumption)) | ((with_reducible refine x_iteW ?_ ?_); focus (first | rfl | assumption)) | ((with_reducible refine x_iteNV ?_ ?_); focus (first | rfl | assumption)) | ((with_reducible refine x_iteNW ?_ ?_); focus (first | rfl | assumption)) | dsimp only [List.set])))
/-- a hand of three: a cell, a number mixed, how often it was asked -/
def HandT (m : MO) (f : Nat) : Prop := ∃ (x y c : Int), m = .lst [.int x, .int y, .int c] ∧ 0 ≤ x ∧ 0 ≤ y ∧ y < 2 ^ 63 ∧ 0 ≤ c ∧ c + f ≤ 2 ^ 40
def Hnd (w : Wd) (a : Addr) (f : Nat) : Prop := ∃ m, w a = some m ∧ HandT m f
theorem Hnd.le {w : Wd} {a : Addr} {f g : Nat} (h : Hnd w a f) (hg : g ≤ f) : Hnd w a g := by
  obtain ⟨m, hm, x, y, c, e, h1, h2, h3, h4, h5⟩ := h
  exact ⟨m, hm, x, y, c, e, h1, h2, h3, h4, by omega⟩
def Frm (a : Addr) (w w' : Wd) : Prop := ∀ b, b ≠ a → w' b = w b
theorem Frm.refl (a : Addr) (w : Wd) : Frm a w w := fun _ _ => rfl
theorem Frm.trans {a : Addr} {w w1 w2 : Wd} (h : Frm a w w1) (h' : Frm a w1 w2) : Frm a w w2 := fun b hb => (h' b hb).trans (h b hb)
theorem Frm.set (a : Addr) (w : Wd) (m : MO) : Frm a w (wset w a m) := fun _ hb => wset_ne hb
def qTake : PSp := fun ds w Q => ∃ (a : Addr) (m : Int) (f : Nat), ds = [.ref a, .int m] ∧ 0 < m ∧ m < 2 ^ 64 ∧ Hnd w a (f + 1) ∧ ∀ (i : Int) w', 0 ≤ i → i < m → Hnd w' a f → Frm a w w' → Q (.int i) w'
theorem hnd_set {w' : Wd} {a : Addr} {x y c : Int} {f : Nat} (h1 : 0 ≤ x) (h2 : 0 ≤ y) (h3 : y < 2 ^ 63) (h4 : 0 ≤ c) (h5 : c + f ≤ 2 ^ 40) : Hnd (wset w' a (.lst [.int x, .int y, .int c])) a f :=
  ⟨_, wset_same, x, y, c, rfl, h1, h2, h3, h4, h5⟩
/-- a hand of the script's k-th cell -/
def qHandK : PSp := fun ds w Q => ∃ (ns : List Int) (k : Int), ds = [.scr (ns.map PV.int), .int k] ∧ 0 ≤ k ∧ k < 1000000 ∧ ∀ a m, w a = none → HandT m (2 ^ 39) → Q (.ref a) (wset w a m)
/-- a thing that is drawn, by so many draws -/
def qThingT (n : Nat) (p : PV → Bool) : PSp := fun ds w Q => ∃ a f, ds = [.ref a] ∧ Hnd w a (f + n) ∧ ∀ d w', p d = true → Hnd w' a f → Frm a w w' → Q d w'
section
variable {P : Program} {w : World} {K : Frag} {mg : Str → Option Value} {base : Heap}
theorem ok_take (T : Tx K mg) : FD P w K mg base "_law_take" 1 qTake := fd__law_take T (by rintro ds w Q ⟨a, b, f, rfl, _⟩; rfl) (by
  rintro d0 d1 w' Q ⟨a, m, f, e, hm, hm2, ⟨mo, hw, x, y, c, rfl, h1, h2, h3, h4, h5⟩, k⟩
  cases e
  have md : ∀ x : Int, 0 ≤ x % m ∧ x % m < m := fun x => ⟨Int.emod_nonneg _ (by omega), Int.emod_lt_of_pos _ hm⟩
  have dv : ∀ x : Int, 0 ≤ x → 0 ≤ x / m := fun x hx => Int.ediv_nonneg hx (by omega)
  unfold rd__law_take
  walk_at "go"
  refine x_ite (fun hc => ?_) (fun hc => ?_)
  · walk_at "go"
    exact k _ _ (md _).1 (md _).2 (hnd_set (dv _ h1) h2 h3 h4 (by omega)) (Frm.set _ _ _)
  · walk_at "go"
    exact k _ _ (md _).1 (md _).2 (hnd_set h1 h2 h3 (by omega) (by omega)) (Frm.set _ _ _))
theorem ok_handK (T : Tx K mg) : FD P w K mg base "_law_hand" 1 qHandK := fd__law_hand T (by rintro ds w Q ⟨ns, k, rfl, _⟩; rfl) (by
  rintro d0 d1 w' Q ⟨ns, k, e, hk0, hk1, h⟩
  cases e
  unfold rd__law_hand
  walk_at "go"
  have tail : ∀ cell : Int, (wSeq2 (wAsg (wC (.int 0)) (wName 3)) (wSeq2 (wFor (wSeq (wSl (wVar 0) wNo (wPart (wC (.int 63))))) (wName 4) (wAsg (wOp dMod (wOp dAdd (wOp dMul (wC (.int 31)) (wVar 3)) (wVar 4)) (wC (.int 2305843009213693951))) (wName 3))) (wRet (wMLst (wCons (wOp dMul (wCB cAbs (wCons (wVar 2) wNil)) (wCB cInt (wCons (wOp (dGe) (wCB cAbs (wCons (wVar 2) wNil)) (wOp dPow (wC (.int 10)) (wC (.int 18)))) wNil))) (wCons (wOp dAdd (wOp dAdd (wOp dMod (wOp dAdd (wVar 2) (wVar 3)) (wC (.int 2305843009213693951))) (wOp dMul (wC (.int 7919)) (wVar 1))) (wC (.int 3))) (wCons (wC (.int 0)) wNil))))))) { nx := fun _ w2 => Q .non w2, rt := Q } [some (.scr (ns.map PV.int)), some (.int k), some (.int cell), none, none] w' := by
    intro cell
    walk_at "go"
    refine for_ind (fun rest ρ w1 => w1 = w' ∧ (∀ d ∈ rest, ∃ i : Int, d = .int i) ∧ ∃ (o4 : Option PV) (fo : Int), ρ = [some (.scr (ns.map PV.int)), some (.int k), some (.int cell), some (.int fo), o4]) ?_ ?_ _ _ _ ⟨rfl, ?_, none, 0, rfl⟩
    · rintro ρ w1 ⟨rfl, _, o4, fo, rfl⟩
      walk_at "go"
      intro p hp
      have a0 : 0 ≤ (if cell < 0 then -cell else cell) := by split <;> omega
      have m0 : 0 ≤ (cell + fo) % 2305843009213693951 := Int.emod_nonneg _ (by omega)
      have m1 : (cell + fo) % 2305843009213693951 < 2305843009213693951 := Int.emod_lt_of_pos _ (by omega)
      refine h p _ hp ⟨_, _, _, rfl, Int.mul_nonneg a0 (by split <;> omega), by omega, by omega, by omega, by omega⟩
    · rintro d r ρ w1 N hN ⟨rfl, hr, o4, fo, rfl⟩
      obtain ⟨i, rfl⟩ := hr d (List.mem_cons_self ..)
      walk_at "go"
      exact hN _ w1 ⟨rfl, fun d hd => hr d (List.mem_cons_of_mem _ hd), _, _, rfl⟩
    · intro d hd
      obtain ⟨i, _, rfl⟩ := List.mem_map.mp (cutD_mem hd)
      exact ⟨i, rfl⟩
  refine x_ite (fun h1 => ?_) fun h1 => ?_
  · walk_at "go"
    obtain ⟨d, hd, hm⟩ := atI_lt (xs := ns.map PV.int) hk0 h1
    obtain ⟨x, _, rfl⟩ := List.mem_map.mp hm
    refine x_ixZ hd ?_
    walk_at "go"
    exact tail x
  · walk_at "go"
    exact tail 0)
end
end Lw

namespace Lw
open PySem L2 Pd
local macro_rules | `(tactic| walk_at "go") => `(tactic| (repeat (first | with_reducible refine x_v0 ?_ | with_reducible refine x_v1 ?_ | with_reducible refine x_v2 ?_ | with_reducible refine x_v3 ?_ | with_reducible refine x_v4 ?_ | with_reducible refine x_v5 ?_ | with_reducible refine x_v6 ?_ | with_reducible refine x_v7 ?_ | with_reducible refine x_v8 ?_ | with_reducible refine x_v9 ?_ | with_reducible refine x_v10 ?_ | with_reducible refine x_v11 ?_ | with_reducible refine x_v12 ?_ | with_reducible refine x_v13 ?_ | with_reducible refine x_v14 ?_ | with_reducible refine x_v15 ?_ | with_reducible refine x_v16 ?_ | with_reducible refine x_v17 ?_ | with_reducible refine x_v18 ?_ | with_reducible refine x_v19 ?_ | with_reducible refine x_v20 ?_ | with_reducible refine x_v21 ?_ | with_reducible refine x_v22 ?_ | with_reducible refine x_v23 ?_ | with_reducible refine x_v24 ?_ | with_reducible refine x_v25 ?_ | with_reducible refine x_seq ?_ | with_reducible refine x_next ?_ | with_reducible refine x_break ?_ | with_reducible refine x_cont ?_ | with_reducible refine x_asg ?_ | with_reducible refine x_drop ?_ | with_reducible refine x_ret ?_ | with_reducible refine x_retN ?_ | with_reducible refine x_if ?_ | with_reducible refine x_for ?_ | with_reducible refine x_name ?_ | with_reducible refine x_gcons ?_ | with_reducible refine x_gnil ?_ | with_reducible refine x_gsubc ?_ | with_reducible refine x_c ?_ | with_reducible refine x_getC ?_ | with_reducible refine x_rgetS ?_ | with_reducible refine x_rgetI ?_ | with_reducible refine x_ixD ?_ | with_reducible refine x_op ?_ | with_reducible refine x_andV ?_ | with_reducible refine x_orV ?_ | with_reducible refine x_notV ?_ | with_reducible refine x_ifE ?_ | with_reducible refine x_neg ?_ | with_reducible refine x_rneg ?_ | with_reducible refine x_chain ?_ | with_reducible refine x_chain3 ?_ | with_reducible refine x_par ?_ | with_reducible refine x_par3 ?_ | with_reducible refine x_onPar ?_ | with_reducible refine x_onPar3 ?_ | with_reducible refine x_tup ?_ | with_reducible refine x_lst ?_ | with_reducible refine x_mlst ?_ | with_reducible refine x_cons ?_ | with_reducible refine x_nil ?_ | with_reducible refine x_cb ?_ | with_reducible refine x_call ?_ | with_reducible refine x_ixc ?_ | with_reducible refine x_rixl ?_ | with_reducible refine x_rixt ?_ | with_reducible refine x_rixz ?_ | with_reducible refine x_sl ?_ | with_reducible refine x_no ?_ | with_reducible refine x_part ?_ | with_reducible refine x_onI ?_ | with_reducible refine x_onB ?_ | with_reducible refine x_onS ?_ | with_reducible refine x_sll ?_ | with_reducible refine x_slz ?_ | with_reducible refine x_slt ?_ | with_reducible refine x_lc ?_ | with_reducible refine x_seqI ?_ | with_reducible refine x_sql ?_ | with_reducible refine x_sqt ?_ | with_reducible refine x_sqz ?_ | with_reducible refine x_sqs ?_ | with_reducible refine x_rng1 ?_ | with_reducible refine x_rng2 ?_ | with_reducible refine x_join ?_ | with_reducible refine x_test ?_ | with_reducible refine x_andT ?_ | with_reducible refine x_orT ?_ | with_reducible refine x_notT ?_ | with_reducible refine x_addI ?_ | with_reducible refine x_sub ?_ | with_reducible refine x_eqI ?_ | with_reducible refine x_neI ?_ | with_reducible refine x_eqS ?_ | with_reducible refine x_neS ?_ | with_reducible refine x_eqB ?_ | with_reducible refine x_ltI ?_ | with_reducible refine x_leI ?_ | with_reducible refine x_gtI ?_ | with_reducible refine x_geI ?_ | with_reducible refine x_ltS ?_ | with_reducible refine x_gtS ?_ | with_reducible refine x_isnt ?_ | with_reducible refine x_isB ?_ | with_reducible refine x_isnB ?_ | with_reducible refine x_lenL ?_ | with_reducible refine x_lenT ?_ | with_reducible refine x_lenZ ?_ | with_reducible refine x_abs ?_ | with_reducible refine x_max ?_ | with_reducible refine x_min ?_ | with_reducible refine x_intI ?_ | with_reducible refine x_intB ?_ | with_reducible refine x_listL ?_ | with_reducible refine x_listT ?_ | with_reducible refine x_tupL ?_ | with_reducible refine x_tupT ?_ | with_reducible refine x_at0 ?_ | with_reducible refine x_at1 ?_ | with_reducible refine x_at2 ?_ | with_reducible refine x_at3 ?_ | with_reducible refine x_at4 ?_ | with_reducible refine x_at5 ?_ | with_reducible refine x_at6 ?_ | with_reducible refine x_rixr (by first | assumption | exact wset_same) ?_ | with_reducible refine x_lenR (by first | assumption | exact wset_same) ?_ | ((with_reducible refine x_rsubc (by first | assumption | exact wset_same) ?_ ?_); (first | (focus (simp; done)) | (focus (simp; omega)))) | ((with_reducible refine x_gtup ?_ ?_); (first | rfl | (focus (simp; done)))) | ((with_reducible refine x_cI ?_ ?_); (first | exact True.intro | assumption)) | ((with_reducible refine x_cI2 ?_ ?_); (first | exact True.intro | assumption)) | ((with_reducible refine x_addL ?_ ?_); (first | (focus (show _ ≤ sizeLine; rw [sizeLine_eq]; simp; done)) | omega)) | ((with_reducible refine x_addT ?_ ?_); (first | (focus (show _ ≤ sizeLine; rw [sizeLine_eq]; simp; done)) | omega)) | ((with_reducible refine x_addS ?_ ?_); (first | (focus (show _ ≤ sizeLine; rw [sizeLine_eq]; simp; done)) | omega)) | ((with_reducible refine x_mod ?_ ?_); (first | omega | assumption)) | ((with_reducible refine x_fdiv ?_ ?_ ?_); (first | omega | assumption); (first | omega | assumption)) | ((with_reducible refine x_mul ?_ ?_); (first | (left; omega) | (right; omega))) | ((with_reducible refine x_pow ?_ ?_ ?_ ?_); decide; decide; decide; (try simp only [Int.reduceToNat, Int.reducePow])) | ((with_reducible refine x_and ?_ ?_); (first | (focus (show _ ≤ sizeLine; rw [sizeLine_eq]; simp; done)) | omega)) | ((with_reducible refine x_rrng1 ?_ ?_ ?_); omega; omega) | ((with_reducible refine x_iteT ?_ ?_); (first | omega | assumption)) | ((with_reducible refine x_iteF ?_ ?_); (first | omega | assumption)) | ((with_reducible refine x_iteNT ?_ ?_); (first | omega | assumption)) | ((with_reducible refine x_iteNF ?_ ?_); (first | omega | assumption)) | with_reducible refine x_iTrue ?_ | with_reducible refine x_iFalse ?_ | with_reducible refine L2.iteT ?_ | with_reducible refine L2.iteF ?_ | simp only [wset_wset] | ((with_reducible refine x_iteV ?_ ?_); focus (first | rfl | assumption)) | ((with_reducible refine x_iteW ?_ ?_); focus (first | rfl | assumption)) | ((with_reducible refine x_iteNV ?_ ?_); focus (first | rfl | assumption)) | ((with_reducible refine x_iteNW ?_ ?_); focus (first | rfl | assumption)) | dsimp only [List.set])))

section
variable {P : Program} {w : World} {K : Frag} {mg : Str → Option Value} {base : Heap}
def isNmD (d : PV) : Bool := isNm d && okD 1 d
theorem nmD1 {d : PV} (h : isNmD d = true) : isNm d = true := by unfold isNmD at h; simp only [Bool.and_eq_true] at h; exact h.1
theorem nmD2 {d : PV} (h : isNmD d = true) : okD 1 d = true := by unfold isNmD at h; simp only [Bool.and_eq_true] at h; exact h.2
theorem okS {n : Nat} {z : Str} (h : z.length ≤ 1000) : okD (n + 1) (.str z) = true := decide_eq_true h
theorem okL {n : Nat} {ds : List PV} (hl : ds.length ≤ 8) (ha : ∀ x ∈ ds, okD n x = true) : okD (n + 1) (.tup ds) = true := by
  simp only [okD, Bool.and_eq_true, decide_eq_true_eq, List.all_eq_true]; exact ⟨hl, ha⟩
theorem okLl {n : Nat} {ds : List PV} (hl : ds.length ≤ 8) (ha : ∀ x ∈ ds, okD n x = true) : okD (n + 1) (.lst ds) = true := by
  simp only [okD, Bool.and_eq_true, decide_eq_true_eq, List.all_eq_true]; exact ⟨hl, ha⟩
theorem x_ifSet {c : Prop} [Decidable c] {D : WEnds} {ρ : Sl} {w : Wd} {n : Nat} {i j : PV} (h : ∀ d, d = i ∨ d = j → D.nx (ρ.set n (some d)) w) (hρ : ρ.set n (some j) = ρ) : if decide c = true then wAsg (wC i) (wName n) D ρ w else wNext D ρ w :=
  x_ite (fun _ => h i (.inl rfl)) fun _ => by have := h j (.inr rfl); rw [hρ] at this; exact this
def kindsB : PV → Bool
  | .lst ks => decide (1 ≤ ks.length) && decide (ks.length ≤ 8) && ks.all isNmD
  | _ => false
theorem cutD_hi {α : Type} (xs : List α) {i : Int} (h0 : 0 ≤ i) : (cutD xs none (some i)).length = min i.toNat xs.length := by
  obtain ⟨k, rfl⟩ := Int.eq_ofNat_of_zero_le h0
  unfold cutD
  rw [HT.sIx_nat, HT.sIx_none, List.length_take, List.length_drop]
  simp
theorem cutD_lo {α : Type} (xs : List α) {i : Int} (h0 : 0 ≤ i) : (cutD xs (some i) none).length = xs.length - i.toNat := by
  obtain ⟨k, rfl⟩ := Int.eq_ofNat_of_zero_le h0
  unfold cutD
  rw [HT.sIx_nat, HT.sIx_none, List.length_take, List.length_drop]
  simp; omega
theorem kinds_cut {L : List PV} (hL : L.length = 8) (ha : L.all isNmD = true) {i m : Int} (h0 : 0 ≤ i) (h1 : i < 8) (hm : 1 ≤ m) (hm8 : m ≤ 8) : kindsB (.lst (cutD (cutD L (some i) none ++ cutD L none (some i)) none (some m))) = true := by
  have l1 := cutD_lo L h0
  have l2 := cutD_hi L h0
  have l3 := cutD_hi (cutD L (some i) none ++ cutD L none (some i)) (i := m) (by omega)
  rw [List.length_append, l1, l2, hL] at l3
  simp only [kindsB, Bool.and_eq_true, decide_eq_true_eq, List.all_eq_true]
  rw [List.all_eq_true] at ha
  refine ⟨⟨by rw [l3]; omega, by rw [l3]; omega⟩, fun x hx => ha x ?_⟩
  rcases List.mem_append.mp (cutD_mem hx) with q | q
  · exact cutD_mem q
  · exact cutD_mem q
theorem ok_kinds (T : Tx K mg) : FD P w K mg base "_law_kinds" 2 (qThingT 4 kindsB) := fd__law_kinds T (ok_take T) (Nat.le_refl _) (by rintro ds w Q ⟨a, f, rfl, _⟩; rfl) (by
  rintro d0 w' Q ⟨a, f, e, hH, h⟩
  cases e
  unfold rd__law_kinds
  walk_at "go"
  refine ⟨a, 8, f + 3, rfl, by omega, by omega, hH, fun i w1 h0 h1 hH1 hf1 => ?_⟩
  walk_at "go"
  refine ⟨a, 3, f + 2, rfl, by omega, by omega, hH1, fun j w2 h2 h3 hH2 hf2 => ?_⟩
  walk_at "go"
  refine ⟨a, 8, f + 1, rfl, by omega, by omega, hH2, fun c w3 h4 h5 hH3 hf3 => ?_⟩
  walk_at "go"
  refine x_ite (fun h6 => ?_) fun h6 => ?_
  · walk_at "go"
    refine ⟨a, 2, f, rfl, by omega, by omega, hH3, fun m w4 h7 h8 hH4 hf4 => ?_⟩
    walk_at "go"
    refine x_addL (by rw [sizeLine_eq, cutD_lo _ h0, cutD_hi _ h0]; simp; omega) ?_
    walk_at "go"
    exact h _ w4 (kinds_cut rfl (by decide +kernel) h0 h1 (by omega) (by omega)) hH4 (((hf1.trans hf2).trans hf3).trans hf4)
  · walk_at "go"
    refine x_addL (by rw [sizeLine_eq, cutD_lo _ h0, cutD_hi _ h0]; simp; omega) ?_
    walk_at "go"
    exact h _ w3 (kinds_cut rfl (by decide +kernel) h0 h1 (by omega) (by omega)) (hH3.le (by omega)) ((hf1.trans hf2).trans hf3))
def qLeaf : PSp := fun ds w Q => ∃ a f ks, ds = [.ref a, .lst ks] ∧ kindsB (.lst ks) = true ∧ Hnd w a (f + 3) ∧ ∀ d w', isW 1 d = true → okD 2 d = true → Hnd w' a f → Frm a w w' → Q d w'
def turnB (d : PV) : Bool := isTurn d && okD 1 d
theorem wkEmpty : wk "empty" = 1 := by decide +kernel
theorem wkStep : wk "step" = 0 := by decide +kernel
theorem wkAgain : wk "again" = 3 := by decide +kernel
theorem wkMany : wk "many" = 4 := by decide +kernel
theorem wEmptyT {n : Nat} : isW (n + 1) (.tup [.str "empty"]) = true := by rw [isW_s, wkEmpty]; rfl
theorem wStepT {n : Nat} {a b : PV} (h : isStep a b = true) : isW (n + 1) (.tup [.str "step", a, b]) = true := by rw [isW_s, wkStep]; exact h
theorem wAgainT {n : Nat} {d : PV} (h : isW n d = true) : isW (n + 1) (.tup [.str "again", d]) = true := by rw [isW_s, wkAgain]; exact h
theorem wManyT {n : Nat} {d l u : PV} (h : isW n d = true) (ht : isTimes l u = true) : isW (n + 1) (.tup [.str "many", d, l, u]) = true := by rw [isW_s, wkMany]; show (isTimes l u && isW n d) = true; rw [h, ht]; rfl
theorem wThenT {n : Nat} {z : Str} {d e : PV} (hz : wk z = 2) (h : isW n d = true) (he : isW n e = true) : isW (n + 1) (.tup [.str z, d, e]) = true := by rw [isW_s, hz]; show (isW n d && isW n e) = true; rw [h, he]; rfl
theorem okEmptyT {n : Nat} : okD (n + 2) (.tup [.str "empty"]) = true := okL (by simp) (by simp only [List.mem_cons, List.not_mem_nil, or_false]; rintro x rfl; exact okS (by decide +kernel))
theorem ok_leaf (T : Tx K mg) : FD P w K mg base "_law_leaf" 2 qLeaf := fd__law_leaf T (ok_take T) (Nat.le_refl _) (by rintro ds w Q ⟨a, f, ks, rfl, _⟩; rfl) (by
  rintro d0 d1 w' Q ⟨a, f, ks, e, hk, hH, h⟩
  cases e
  simp only [kindsB, Bool.and_eq_true, decide_eq_true_eq] at hk
  unfold rd__law_leaf
  walk_at "go"
  refine ⟨a, 9, f + 2, rfl, by omega, by omega, hH, fun how w1 h0 h1 hH1 hf1 => ?_⟩
  walk_at "go"
  refine x_ite (fun h2 => ?_) fun h2 => ?_
  · walk_at "go"
    exact h _ w1 wEmptyT okEmptyT (hH1.le (by omega)) hf1
  · walk_at "go"
    refine ⟨a, _, f + 1, rfl, by omega, by omega, hH1, fun i w2 h3 h4 hH2 hf2 => ?_⟩
    refine x_ixLB isNmD h3 h4 hk.2 fun kd hkd _ => ?_
    walk_at "go"
    refine x_ifSet (fun dd hdd => ?_) rfl
    have q1 : (isNon dd || isNm dd) = true := by
      rcases hdd with rfl | rfl
      · rfl
      · rw [nmD1 hkd, Bool.or_true]
    have q2 : okD 1 dd = true := by
      rcases hdd with rfl | rfl
      · rfl
      · exact nmD2 hkd
    clear hdd
    dsimp only [List.set]
    walk_at "go"
    refine ⟨a, 4, f, rfl, by omega, by omega, hH2, fun j w3 h5 h6 hH3 hf3 => ?_⟩
    refine x_ixTB turnB h5 (by simpa using h6) (by decide +kernel) fun tn htn _ => ?_
    simp only [turnB, Bool.and_eq_true] at htn
    walk_at "go"
    refine h _ w3 (wStepT (by unfold isStep; rw [q1, htn.1]; rfl)) (okL (by simp) ?_) hH3 ((hf1.trans hf2).trans hf3)
    simp only [List.mem_cons, List.not_mem_nil, or_false]; rintro x (rfl | rfl | rfl)
    · exact okS (by decide +kernel)
    · exact q2
    · exact htn.2)
theorem ok_oddT (T : Tx K mg) : FD P w K mg base "_law_odd" 2 (qThingT 1 (okD 4)) := fd__law_odd T (ok_take T) (Nat.le_refl _) (by rintro ds w Q ⟨a, f, rfl, _⟩; rfl) (by
  rintro d0 w' Q ⟨a, f, e, hH, h⟩
  cases e
  unfold rd__law_odd
  walk_at "go"
  refine ⟨a, 36, f, rfl, by omega, by omega, hH, fun i w1 h0 h1 hH1 hf => ?_⟩
  refine x_ixLB (okD 4) h0 (by simpa using h1) (by decide +kernel) fun d hd _ => ?_
  exact h d w1 hd hH1 hf)
end
end Lw

namespace Lw
open PySem L2 Pd
local macro_rules | `(tactic| walk_at "go") => `(tactic| (repeat (first | with_reducible refine x_v0 ?_ | with_reducible refine x_v1 ?_ | with_reducible refine x_v2 ?_ | with_reducible refine x_v3 ?_ | with_reducible refine x_v4 ?_ | with_reducible refine x_v5 ?_ | with_reducible refine x_v6 ?_ | with_reducible refine x_v7 ?_ | with_reducible refine x_v8 ?_ | with_reducible refine x_v9 ?_ | with_reducible refine x_v10 ?_ | with_reducible refine x_v11 ?_ | with_reducible refine x_v12 ?_ | with_reducible refine x_v13 ?_ | with_reducible refine x_v14 ?_ | with_reducible refine x_v15 ?_ | with_reducible refine x_v16 ?_ | with_reducible refine x_v17 ?_ | with_reducible refine x_v18 ?_ | with_reducible refine x_v19 ?_ | with_reducible refine x_v20 ?_ | with_reducible refine x_v21 ?_ | with_reducible refine x_v22 ?_ | with_reducible refine x_v23 ?_ | with_reducible refine x_v24 ?_ | with_reducible refine x_v25 ?_ | with_reducible refine x_seq ?_ | with_reducible refine x_next ?_ | with_reducible refine x_break ?_ | with_reducible refine x_cont ?_ | with_reducible refine x_asg ?_ | with_reducible refine x_drop ?_ | with_reducible refine x_ret ?_ | with_reducible refine x_retN ?_ | with_reducible refine x_if ?_ | with_reducible refine x_for ?_ | with_reducible refine x_name ?_ | with_reducible refine x_gcons ?_ | with_reducible refine x_gnil ?_ | with_reducible refine x_gsubc ?_ | with_reducible refine x_c ?_ | with_reducible refine x_getC ?_ | with_reducible refine x_rgetS ?_ | with_reducible refine x_rgetI ?_ | with_reducible refine x_ixD ?_ | with_reducible refine x_op ?_ | with_reducible refine x_andV ?_ | with_reducible refine x_orV ?_ | with_reducible refine x_notV ?_ | with_reducible refine x_ifE ?_ | with_reducible refine x_neg ?_ | with_reducible refine x_rneg ?_ | with_reducible refine x_chain ?_ | with_reducible refine x_chain3 ?_ | with_reducible refine x_par ?_ | with_reducible refine x_par3 ?_ | with_reducible refine x_onPar ?_ | with_reducible refine x_onPar3 ?_ | with_reducible refine x_tup ?_ | with_reducible refine x_lst ?_ | with_reducible refine x_mlst ?_ | with_reducible refine x_cons ?_ | with_reducible refine x_nil ?_ | with_reducible refine x_cb ?_ | with_reducible refine x_call ?_ | with_reducible refine x_ixc ?_ | with_reducible refine x_rixl ?_ | with_reducible refine x_rixt ?_ | with_reducible refine x_rixz ?_ | with_reducible refine x_sl ?_ | with_reducible refine x_no ?_ | with_reducible refine x_part ?_ | with_reducible refine x_onI ?_ | with_reducible refine x_onB ?_ | with_reducible refine x_onS ?_ | with_reducible refine x_sll ?_ | with_reducible refine x_slz ?_ | with_reducible refine x_slt ?_ | with_reducible refine x_lc ?_ | with_reducible refine x_seqI ?_ | with_reducible refine x_sql ?_ | with_reducible refine x_sqt ?_ | with_reducible refine x_sqz ?_ | with_reducible refine x_sqs ?_ | with_reducible refine x_rng1 ?_ | with_reducible refine x_rng2 ?_ | with_reducible refine x_join ?_ | with_reducible refine x_test ?_ | with_reducible refine x_andT ?_ | with_reducible refine x_orT ?_ | with_reducible refine x_notT ?_ | with_reducible refine x_addI ?_ | with_reducible refine x_sub ?_ | with_reducible refine x_eqI ?_ | with_reducible refine x_neI ?_ | with_reducible refine x_eqS ?_ | with_reducible refine x_neS ?_ | with_reducible refine x_eqB ?_ | with_reducible refine x_ltI ?_ | with_reducible refine x_leI ?_ | with_reducible refine x_gtI ?_ | with_reducible refine x_geI ?_ | with_reducible refine x_ltS ?_ | with_reducible refine x_gtS ?_ | with_reducible refine x_isnt ?_ | with_reducible refine x_isB ?_ | with_reducible refine x_isnB ?_ | with_reducible refine x_lenL ?_ | with_reducible refine x_lenT ?_ | with_reducible refine x_lenZ ?_ | with_reducible refine x_abs ?_ | with_reducible refine x_max ?_ | with_reducible refine x_min ?_ | with_reducible refine x_intI ?_ | with_reducible refine x_intB ?_ | with_reducible refine x_listL ?_ | with_reducible refine x_listT ?_ | with_reducible refine x_tupL ?_ | with_reducible refine x_tupT ?_ | with_reducible refine x_at0 ?_ | with_reducible refine x_at1 ?_ | with_reducible refine x_at2 ?_ | with_reducible refine x_at3 ?_ | with_reducible refine x_at4 ?_ | with_reducible refine x_at5 ?_ | with_reducible refine x_at6 ?_ | with_reducible refine x_rixr (by first | assumption | exact wset_same) ?_ | with_reducible refine x_lenR (by first | assumption | exact wset_same) ?_ | ((with_reducible refine x_rsubc (by first | assumption | exact wset_same) ?_ ?_); (first | (focus (simp; done)) | (focus (simp; omega)))) | ((with_reducible refine x_gtup ?_ ?_); (first | rfl | (focus (simp; done)))) | ((with_reducible refine x_cI ?_ ?_); (first | exact True.intro | assumption)) | ((with_reducible refine x_cI2 ?_ ?_); (first | exact True.intro | assumption)) | ((with_reducible refine x_addL ?_ ?_); (first | (focus (show _ ≤ sizeLine; rw [sizeLine_eq]; simp; done)) | omega)) | ((with_reducible refine x_addT ?_ ?_); (first | (focus (show _ ≤ sizeLine; rw [sizeLine_eq]; simp; done)) | omega)) | ((with_reducible refine x_addS ?_ ?_); (first | (focus (show _ ≤ sizeLine; rw [sizeLine_eq]; simp; done)) | omega)) | ((with_reducible refine x_mod ?_ ?_); (first | omega | assumption)) | ((with_reducible refine x_fdiv ?_ ?_ ?_); (first | omega | assumption); (first | omega | assumption)) | ((with_reducible refine x_mul ?_ ?_); (first | (left; omega) | (right; omega))) | ((with_reducible refine x_pow ?_ ?_ ?_ ?_); decide; decide; decide; (try simp only [Int.reduceToNat, Int.reducePow])) | ((with_reducible refine x_and ?_ ?_); (first | (focus (show _ ≤ sizeLine; rw [sizeLine_eq]; simp; done)) | omega)) | ((with_reducible refine x_rrng1 ?_ ?_ ?_); omega; omega) | ((with_reducible refine x_iteT ?_ ?_); (first | omega | assumption)) | ((with_reducible refine x_iteF ?_ ?_); (first | omega | assumption)) | ((with_reducible refine x_iteNT ?_ ?_); (first | omega | assumption)) | ((with_reducible refine x_iteNF ?_ ?_); (first | omega | assumption)) | with_reducible refine x_iTrue ?_ | with_reducible refine x_iFalse ?_ | with_reducible refine L2.iteT ?_ | with_reducible refine L2.iteF ?_ | simp only [wset_wset] | ((with_reducible refine x_iteV ?_ ?_); focus (first | rfl | assumption)) | ((with_reducible refine x_iteW ?_ ?_); focus (first | rfl | assumption)) | ((with_reducible refine x_iteNV ?_ ?_); focus (first | rfl | assumption)) | ((with_reducible refine x_iteNW ?_ ?_); focus (first | rfl | assumption)) | dsimp only [List.set])))

section
variable {P : Program} {w : World} {K : Frag} {mg : Str → Option Value} {base : Heap}
def tf : Nat → Nat
  | 0 => 20
  | n + 1 => 2 * tf n + 20
theorem tf_ge : ∀ n, 20 ≤ tf n
  | 0 => Nat.le_refl _
  | n + 1 => by simp only [tf]; omega
theorem tf_mono {n m : Nat} (h : n ≤ m) : tf n ≤ tf m := by
  induction h with
  | refl => exact Nat.le_refl _
  | step _ ih => simp only [tf]; omega
theorem tf_pred {n : Nat} (h : 1 ≤ n) : tf n = 2 * tf (n - 1) + 20 := by
  obtain ⟨m, rfl⟩ : ∃ m, n = m + 1 := ⟨n - 1, by omega⟩
  rfl
def fewI : PV → Bool
  | .int i => decide (1 ≤ i) && decide (i ≤ 4)
  | _ => false
def wordT : PV → Bool
  | .str z => decide (wk z = 2) && decide (z.length ≤ 1000)
  | _ => false
def qWay (N : Nat) : PSp := fun ds w Q => ∃ room : Nat, room < N ∧ ∃ nest : Int, 0 ≤ nest ∧ ∃ a f ks, ds = [.ref a, .lst ks, .int (room : Int), .int nest] ∧ kindsB (.lst ks) = true ∧ Hnd w a (f + tf room) ∧
  ∀ d w', isW (room + 1) d = true → okD (room + 2) d = true → Hnd w' a f → Frm a w w' → Q d w'
theorem ok_mway (T : Tx K mg) : ∀ N : Nat, N ≤ 100 → FD P w K mg base "_law_way" (N + 2) (qWay N)
  | 0, _ => (fd_none T.f__law_way sc__law_way (by rintro ds w Q ⟨n, hn, _⟩; exact Nat.not_lt_zero _ hn)).mono (by omega)
  | N + 1, hN => fd__law_way T (ok_mway T N (by omega)) (Nat.le_refl _) (ok_take T) (by omega) (ok_leaf T) (by omega) (by rintro ds w Q ⟨n, hn, nest, hne, a, f, ks, rfl, _⟩; rfl) (by
    rintro d0 d1 d2 d3 w' Q ⟨room, hr, nest, hn, a, f, ks, e, hk, hH, h⟩
    cases e
    have hge := tf_ge room
    have hpr : 1 ≤ room → tf room = 2 * tf (room - 1) + 20 := tf_pred
    unfold rd__law_way
    walk_at "go"
    refine ⟨a, 9, f + tf room - 1, rfl, by omega, by omega, hH.le (by omega), fun how w1 h0 h1 hH1 hf1 => ?_⟩
    walk_at "go"
    refine x_ite (fun h2 => ?_) fun h2 => ?_
    · walk_at "go"
      refine ⟨a, f, ks, rfl, hk, hH1.le (by omega), fun d w2 hd hd2 hH2 hf2 => ?_⟩
      exact h d w2 (isW_le hd (by omega)) (okD_le hd2 (by omega)) hH2 (hf1.trans hf2)
    · walk_at "go"
      refine x_ite (fun h3 => ?_) fun h3 => ?_
      · walk_at "go"
        refine ⟨a, f, ks, rfl, hk, hH1.le (by omega), fun d w2 hd hd2 hH2 hf2 => ?_⟩
        exact h d w2 (isW_le hd (by omega)) (okD_le hd2 (by omega)) hH2 (hf1.trans hf2)
      · walk_at "go"
        refine x_ite (fun h4 => ?_) fun h4 => ?_
        · walk_at "go"
          refine x_ite (fun h5 => ?_) fun h5 => ?_
          · walk_at "go"
            refine ⟨a, f, ks, rfl, hk, hH1.le (by omega), fun d w2 hd hd2 hH2 hf2 => ?_⟩
            exact h d w2 (isW_le hd (by omega)) (okD_le hd2 (by omega)) hH2 (hf1.trans hf2)
          · walk_at "go"
            refine x_ite (fun h6 => ?_) fun h6 => ?_
            · walk_at "go"
              refine ⟨room - 1, by omega, nest - 1, by omega, a, f, ks, by simp; omega, hk, hH1.le (by omega), fun d w2 hd hd2 hH2 hf2 => ?_⟩
              walk_at "go"
              refine h _ w2 (wAgainT (isW_le hd (by omega))) (okL (by simp) ?_) hH2 (hf1.trans hf2)
              simp only [List.mem_cons, List.not_mem_nil, or_false]; rintro x (rfl | rfl)
              · exact okS (by decide +kernel)
              · exact okD_le hd2 (by omega)
            · walk_at "go"
              refine ⟨room - 1, by omega, nest - 1, by omega, a, f, ks, by simp; omega, hk, hH1.le (by omega), fun d w2 hd hd2 hH2 hf2 => ?_⟩
              walk_at "go"
              refine h _ w2 (wAgainT (isW_le hd (by omega))) (okL (by simp) ?_) hH2 (hf1.trans hf2)
              simp only [List.mem_cons, List.not_mem_nil, or_false]; rintro x (rfl | rfl)
              · exact okS (by decide +kernel)
              · exact okD_le hd2 (by omega)
        · walk_at "go"
          refine x_ite (fun h6 => ?_) fun h6 => ?_
          · walk_at "go"
            refine x_ite (fun h7 => ?_) fun h7 => ?_
            · walk_at "go"
              refine ⟨room - 1, by omega, nest - 1, by omega, a, f, ks, by simp; omega, hk, hH1.le (by omega), fun d w2 hd hd2 hH2 hf2 => ?_⟩
              walk_at "go"
              refine h _ w2 (wAgainT (isW_le hd (by omega))) (okL (by simp) ?_) hH2 (hf1.trans hf2)
              simp only [List.mem_cons, List.not_mem_nil, or_false]; rintro x (rfl | rfl)
              · exact okS (by decide +kernel)
              · exact okD_le hd2 (by omega)
            · walk_at "go"
              refine ⟨a, (room : Int) - 2, f + tf (room - 1) + tf (room - 1), rfl, by omega, by omega, hH1.le (by omega), fun lf w2 h20 h21 hH2 hf2 => ?_⟩
              walk_at "go"
              have t1 : tf (1 + lf).toNat ≤ tf (room - 1) := tf_mono (by omega)
              have t2 : tf (room - 1 - (1 + lf).toNat) ≤ tf (room - 1) := tf_mono (by omega)
              refine ⟨(1 + lf).toNat, by omega, nest, hn, a, f + tf (room - 1), ks, by simp; omega, hk, hH2.le (by omega), fun d w3 hd hd2 hH3 hf3 => ?_⟩
              walk_at "go"
              refine x_ixTB wordT (Int.emod_nonneg _ (by omega)) (by have := Int.emod_lt_of_pos how (b := 2) (by omega); simp; omega) (by decide +kernel) fun z0 hz _ => ?_
              cases z0 with
              | str z =>
                simp only [wordT, Bool.and_eq_true, decide_eq_true_eq] at hz
                walk_at "go"
                refine ⟨room - 1 - (1 + lf).toNat, by omega, nest, hn, a, f, ks, by simp; omega, hk, hH3.le (by omega), fun e w4 he he2 hH4 hf4 => ?_⟩
                walk_at "go"
                refine h _ w4 (wThenT hz.1 (isW_le hd (by omega)) (isW_le he (by omega))) (okL (by simp) ?_) hH4 (((hf1.trans hf2).trans hf3).trans hf4)
                simp only [List.mem_cons, List.not_mem_nil, or_false]; rintro x (rfl | rfl | rfl)
                · exact okS hz.2
                · exact okD_le hd2 (by omega)
                · exact okD_le he2 (by omega)
              | _ => simp [wordT] at hz
          · walk_at "go"
            refine x_ite (fun h8 => ?_) fun h8 => ?_
            · walk_at "go"
              refine x_ite (fun h9 => ?_) fun h9 => ?_
              · walk_at "go"
                refine ⟨a, 3, f + tf (room - 1) + 2, rfl, by omega, by omega, hH1.le (by omega), fun lo w2 h20 h21 hH2 hf2 => ?_⟩
                walk_at "go"
                refine ⟨a, 3, f + tf (room - 1) + 1, rfl, by omega, by omega, hH2, fun c w3 h22 h23 hH3 hf3 => ?_⟩
                refine x_ixTB fewI h22 (by simpa using h23) (by decide +kernel) fun fe hfe _ => ?_
                cases fe with
                | int fe =>
                  simp only [fewI, Bool.and_eq_true, decide_eq_true_eq] at hfe
                  walk_at "go"
                  refine ⟨a, fe, f + tf (room - 1), rfl, by omega, by omega, hH3, fun mo w4 h24 h25 hH4 hf4 => ?_⟩
                  walk_at "go"
                  refine ⟨room - 1, by omega, nest - 1, by omega, a, f, ks, by simp; omega, hk, hH4, fun d w5 hd hd2 hH5 hf5 => ?_⟩
                  walk_at "go"
                  refine h _ w5 (wManyT (isW_le hd (by omega)) (by simp only [isTimes, Bool.and_eq_true, decide_eq_true_eq]; omega)) (okL (by simp) ?_) hH5 ((((hf1.trans hf2).trans hf3).trans hf4).trans hf5)
                  simp only [List.mem_cons, List.not_mem_nil, or_false]; rintro x (rfl | rfl | rfl | rfl)
                  · exact okS (by decide +kernel)
                  · exact okD_le hd2 (by omega)
                  · rfl
                  · rfl
                | _ => simp [fewI] at hfe
              · walk_at "go"
                refine ⟨a, (room : Int) - 2, f + tf (room - 1) + tf (room - 1), rfl, by omega, by omega, hH1.le (by omega), fun lf w2 h20 h21 hH2 hf2 => ?_⟩
                walk_at "go"
                have t1 : tf (1 + lf).toNat ≤ tf (room - 1) := tf_mono (by omega)
                have t2 : tf (room - 1 - (1 + lf).toNat) ≤ tf (room - 1) := tf_mono (by omega)
                refine ⟨(1 + lf).toNat, by omega, nest, hn, a, f + tf (room - 1), ks, by simp; omega, hk, hH2.le (by omega), fun d w3 hd hd2 hH3 hf3 => ?_⟩
                walk_at "go"
                refine x_ixTB wordT (Int.emod_nonneg _ (by omega)) (by have := Int.emod_lt_of_pos how (b := 2) (by omega); simp; omega) (by decide +kernel) fun z0 hz _ => ?_
                cases z0 with
                | str z =>
                  simp only [wordT, Bool.and_eq_true, decide_eq_true_eq] at hz
                  walk_at "go"
                  refine ⟨room - 1 - (1 + lf).toNat, by omega, nest, hn, a, f, ks, by simp; omega, hk, hH3.le (by omega), fun e w4 he he2 hH4 hf4 => ?_⟩
                  walk_at "go"
                  refine h _ w4 (wThenT hz.1 (isW_le hd (by omega)) (isW_le he (by omega))) (okL (by simp) ?_) hH4 (((hf1.trans hf2).trans hf3).trans hf4)
                  simp only [List.mem_cons, List.not_mem_nil, or_false]; rintro x (rfl | rfl | rfl)
                  · exact okS hz.2
                  · exact okD_le hd2 (by omega)
                  · exact okD_le he2 (by omega)
                | _ => simp [wordT] at hz
            · walk_at "go"
              refine ⟨a, (room : Int) - 2, f + tf (room - 1) + tf (room - 1), rfl, by omega, by omega, hH1.le (by omega), fun lf w2 h20 h21 hH2 hf2 => ?_⟩
              walk_at "go"
              have t1 : tf (1 + lf).toNat ≤ tf (room - 1) := tf_mono (by omega)
              have t2 : tf (room - 1 - (1 + lf).toNat) ≤ tf (room - 1) := tf_mono (by omega)
              refine ⟨(1 + lf).toNat, by omega, nest, hn, a, f + tf (room - 1), ks, by simp; omega, hk, hH2.le (by omega), fun d w3 hd hd2 hH3 hf3 => ?_⟩
              walk_at "go"
              refine x_ixTB wordT (Int.emod_nonneg _ (by omega)) (by have := Int.emod_lt_of_pos how (b := 2) (by omega); simp; omega) (by decide +kernel) fun z0 hz _ => ?_
              cases z0 with
              | str z =>
                simp only [wordT, Bool.and_eq_true, decide_eq_true_eq] at hz
                walk_at "go"
                refine ⟨room - 1 - (1 + lf).toNat, by omega, nest, hn, a, f, ks, by simp; omega, hk, hH3.le (by omega), fun e w4 he he2 hH4 hf4 => ?_⟩
                walk_at "go"
                refine h _ w4 (wThenT hz.1 (isW_le hd (by omega)) (isW_le he (by omega))) (okL (by simp) ?_) hH4 (((hf1.trans hf2).trans hf3).trans hf4)
                simp only [List.mem_cons, List.not_mem_nil, or_false]; rintro x (rfl | rfl | rfl)
                · exact okS hz.2
                · exact okD_le hd2 (by omega)
                · exact okD_le he2 (by omega)
              | _ => simp [wordT] at hz)
end
end Lw

namespace Lw
open PySem L2 Pd
local macro_rules | `(tactic| walk_at "go") => `(tactic| (repeat (first | with_reducible refine x_v0 ?_ | with_reducible refine x_v1 ?_ | with_reducible refine x_v2 ?_ | with_reducible refine x_v3 ?_ | with_reducible refine x_v4 ?_ | with_reducible refine x_v5 ?_ | with_reducible refine x_v6 ?_ | with_reducible refine x_v7 ?_ | with_reducible refine x_v8 ?_ | with_reducible refine x_v9 ?_ | with_reducible refine x_v10 ?_ | with_reducible refine x_v11 ?_ | with_reducible refine x_v12 ?_ | with_reducible refine x_v13 ?_ | with_reducible refine x_v14 ?_ | with_reducible refine x_v15 ?_ | with_reducible refine x_v16 ?_ | with_reducible refine x_v17 ?_ | with_reducible refine x_v18 ?_ | with_reducible refine x_v19 ?_ | with_reducible refine x_v20 ?_ | with_reducible refine x_v21 ?_ | with_reducible refine x_v22 ?_ | with_reducible refine x_v23 ?_ | with_reducible refine x_v24 ?_ | with_reducible refine x_v25 ?_ | with_reducible refine x_seq ?_ | with_reducible refine x_next ?_ | with_reducible refine x_break ?_ | with_reducible refine x_cont ?_ | with_reducible refine x_asg ?_ | with_reducible refine x_drop ?_ | with_reducible refine x_ret ?_ | with_reducible refine x_retN ?_ | with_reducible refine x_if ?_ | with_reducible refine x_for ?_ | with_reducible refine x_name ?_ | with_reducible refine x_gcons ?_ | with_reducible refine x_gnil ?_ | with_reducible refine x_gsubc ?_ | with_reducible refine x_c ?_ | with_reducible refine x_getC ?_ | with_reducible refine x_rgetS ?_ | with_reducible refine x_rgetI ?_ | with_reducible refine x_ixD ?_ | with_reducible refine x_op ?_ | with_reducible refine x_andV ?_ | with_reducible refine x_orV ?_ | with_reducible refine x_notV ?_ | with_reducible refine x_ifE ?_ | with_reducible refine x_neg ?_ | with_reducible refine x_rneg ?_ | with_reducible refine x_chain ?_ | with_reducible refine x_chain3 ?_ | with_reducible refine x_par ?_ | with_reducible refine x_par3 ?_ | with_reducible refine x_onPar ?_ | with_reducible refine x_onPar3 ?_ | with_reducible refine x_tup ?_ | with_reducible refine x_lst ?_ | with_reducible refine x_mlst ?_ | with_reducible refine x_cons ?_ | with_reducible refine x_nil ?_ | with_reducible refine x_cb ?_ | with_reducible refine x_call ?_ | with_reducible refine x_ixc ?_ | with_reducible refine x_rixl ?_ | with_reducible refine x_rixt ?_ | with_reducible refine x_rixz ?_ | with_reducible refine x_sl ?_ | with_reducible refine x_no ?_ | with_reducible refine x_part ?_ | with_reducible refine x_onI ?_ | with_reducible refine x_onB ?_ | with_reducible refine x_onS ?_ | with_reducible refine x_sll ?_ | with_reducible refine x_slz ?_ | with_reducible refine x_slt ?_ | with_reducible refine x_lc ?_ | with_reducible refine x_seqI ?_ | with_reducible refine x_sql ?_ | with_reducible refine x_sqt ?_ | with_reducible refine x_sqz ?_ | with_reducible refine x_sqs ?_ | with_reducible refine x_rng1 ?_ | with_reducible refine x_rng2 ?_ | with_reducible refine x_join ?_ | with_reducible refine x_test ?_ | with_reducible refine x_andT ?_ | with_reducible refine x_orT ?_ | with_reducible refine x_notT ?_ | with_reducible refine x_addI ?_ | with_reducible refine x_sub ?_ | with_reducible refine x_eqI ?_ | with_reducible refine x_neI ?_ | with_reducible refine x_eqS ?_ | with_reducible refine x_neS ?_ | with_reducible refine x_eqB ?_ | with_reducible refine x_ltI ?_ | with_reducible refine x_leI ?_ | with_reducible refine x_gtI ?_ | with_reducible refine x_geI ?_ | with_reducible refine x_ltS ?_ | with_reducible refine x_gtS ?_ | with_reducible refine x_isnt ?_ | with_reducible refine x_isB ?_ | with_reducible refine x_isnB ?_ | with_reducible refine x_lenL ?_ | with_reducible refine x_lenT ?_ | with_reducible refine x_lenZ ?_ | with_reducible refine x_abs ?_ | with_reducible refine x_max ?_ | with_reducible refine x_min ?_ | with_reducible refine x_intI ?_ | with_reducible refine x_intB ?_ | with_reducible refine x_listL ?_ | with_reducible refine x_listT ?_ | with_reducible refine x_tupL ?_ | with_reducible refine x_tupT ?_ | with_reducible refine x_at0 ?_ | with_reducible refine x_at1 ?_ | with_reducible refine x_at2 ?_ | with_reducible refine x_at3 ?_ | with_reducible refine x_at4 ?_ | with_reducible refine x_at5 ?_ | with_reducible refine x_at6 ?_ | with_reducible refine x_rixr (by first | assumption | exact wset_same) ?_ | with_reducible refine x_lenR (by first | assumption | exact wset_same) ?_ | ((with_reducible refine x_rsubc (by first | assumption | exact wset_same) ?_ ?_); (first | (focus (simp; done)) | (focus (simp; omega)))) | ((with_reducible refine x_gtup ?_ ?_); (first | rfl | (focus (simp; done)))) | ((with_reducible refine x_cI ?_ ?_); (first | exact True.intro | assumption)) | ((with_reducible refine x_cI2 ?_ ?_); (first | exact True.intro | assumption)) | ((with_reducible refine x_addL ?_ ?_); (first | (focus (show _ ≤ sizeLine; rw [sizeLine_eq]; simp; done)) | omega)) | ((with_reducible refine x_addT ?_ ?_); (first | (focus (show _ ≤ sizeLine; rw [sizeLine_eq]; simp; done)) | omega)) | ((with_reducible refine x_addS ?_ ?_); (first | (focus (show _ ≤ sizeLine; rw [sizeLine_eq]; simp; done)) | omega)) | ((with_reducible refine x_mod ?_ ?_); (first | omega | assumption)) | ((with_reducible refine x_fdiv ?_ ?_ ?_); (first | omega | assumption); (first | omega | assumption)) | ((with_reducible refine x_mul ?_ ?_); (first | (left; omega) | (right; omega))) | ((with_reducible refine x_pow ?_ ?_ ?_ ?_); decide; decide; decide; (try simp only [Int.reduceToNat, Int.reducePow])) | ((with_reducible refine x_and ?_ ?_); (first | (focus (show _ ≤ sizeLine; rw [sizeLine_eq]; simp; done)) | omega)) | ((with_reducible refine x_rrng1 ?_ ?_ ?_); omega; omega) | ((with_reducible refine x_iteT ?_ ?_); (first | omega | assumption)) | ((with_reducible refine x_iteF ?_ ?_); (first | omega | assumption)) | ((with_reducible refine x_iteNT ?_ ?_); (first | omega | assumption)) | ((with_reducible refine x_iteNF ?_ ?_); (first | omega | assumption)) | with_reducible refine x_iTrue ?_ | with_reducible refine x_iFalse ?_ | with_reducible refine L2.iteT ?_ | with_reducible refine L2.iteF ?_ | simp only [wset_wset] | ((with_reducible refine x_iteV ?_ ?_); focus (first | rfl | assumption)) | ((with_reducible refine x_iteW ?_ ?_); focus (first | rfl | assumption)) | ((with_reducible refine x_iteNV ?_ ?_); focus (first | rfl | assumption)) | ((with_reducible refine x_iteNW ?_ ?_); focus (first | rfl | assumption)) | dsimp only [List.set])))

section
variable {P : Program} {w : World} {K : Frag} {mg : Str → Option Value} {base : Heap}
theorem deps_le : ∀ {ds : List PV} {n : Nat}, (∀ x ∈ ds, x.dep ≤ n) → PV.deps ds ≤ n
  | [], _, _ => by simp [PV.deps]
  | d :: r, n, h => by
    simp only [PV.deps]
    have h1 := h d (List.mem_cons_self ..)
    have h2 := deps_le (ds := r) fun x hx => h x (List.mem_cons_of_mem _ hx)
    omega
theorem okD_dep : ∀ {n : Nat} {d : PV}, okD n d = true → d.dep ≤ n
  | n + 1, .str _, _ => by simp [PV.dep]
  | n + 1, .int _, _ => by simp [PV.dep]
  | n + 1, .bl _, _ => by simp [PV.dep]
  | n + 1, .non, _ => by simp [PV.dep]
  | n + 1, .tup ds, h => by
    simp only [okD, Bool.and_eq_true, List.all_eq_true] at h
    simp only [PV.dep]; have := deps_le (n := n) fun d hd => okD_dep (h.2 d hd); omega
  | n + 1, .lst ds, h => by
    simp only [okD, Bool.and_eq_true, List.all_eq_true] at h
    simp only [PV.dep]; have := deps_le (n := n) fun d hd => okD_dep (h.2 d hd); omega
def isTup1 : PV → Bool
  | .tup _ => true
  | _ => false
theorem times_ntup {l u : PV} (h : isTimes l u = true) : isTup1 l = false ∧ isTup1 u = false := by
  cases l <;> cases u <;> first | exact ⟨rfl, rfl⟩ | (simp [isTimes] at h)
theorem isW_parts {n : Nat} {d : PV} (h : isW (n + 1) d = true) : ∃ z r, d = .tup (.str z :: r) ∧ r.length ≤ 3 ∧ ∀ x ∈ r, isTup1 x = true → isW n x = true := by
  cases d with
  | tup ds =>
    match ds, h with
    | .str z :: r, h =>
      rw [isW_s] at h
      refine ⟨z, r, rfl, ?_⟩
      split at h
      · rename_i a b _
        refine ⟨by simp, fun x hx hx1 => ?_⟩
        simp only [isStep, Bool.and_eq_true, Bool.or_eq_true] at h
        simp only [List.mem_cons, List.not_mem_nil, or_false] at hx
        rcases hx with rfl | rfl
        · cases x <;> simp [isNon, isNm, isTup1] at h hx1
        · cases x <;> simp [isTurn, isTup1] at h hx1
      · exact ⟨by simp, fun x hx => nomatch hx⟩
      · simp only [Bool.and_eq_true] at h
        refine ⟨by simp, fun x hx _ => ?_⟩
        simp only [List.mem_cons, List.not_mem_nil, or_false] at hx
        rcases hx with rfl | rfl
        · exact h.1
        · exact h.2
      · exact ⟨by simp, fun x hx _ => by
          obtain rfl := List.mem_singleton.mp hx
          exact h⟩
      · simp only [Bool.and_eq_true] at h
        refine ⟨by simp, fun x hx hx1 => ?_⟩
        simp only [List.mem_cons, List.not_mem_nil, or_false] at hx
        have ht := h.1
        rcases hx with rfl | rfl | rfl
        · exact h.2
        · rw [(times_ntup ht).1] at hx1; cases hx1
        · rw [(times_ntup ht).2] at hx1; cases hx1
      · cases h
    | [], h => simp [isW] at h
    | .int _ :: _, h => simp [isW] at h
    | .bl _ :: _, h => simp [isW] at h
    | .non :: _, h => simp [isW] at h
    | .tup _ :: _, h => simp [isW] at h
    | .lst _ :: _, h => simp [isW] at h
    | .scr _ :: _, h => simp [isW] at h
    | .ref _ :: _, h => simp [isW] at h
    | .ty _ :: _, h => simp [isW] at h
  | _ => simp [isW] at h
def qSp (n : Nat) : PSp := fun ds w Q => ∃ a f d, ds = [.ref a, d] ∧ n ≤ 60 ∧ okD n d = true ∧ (isTup1 d = true → isW n d = true) ∧ Hnd w a (f + 4 * n) ∧ ∀ d' w', okD (n + 4) d' = true → Hnd w' a f → Frm a w w' → Q d' w'
theorem ok_spoilt (T : Tx K mg) : ∀ n : Nat, FD P w K mg base "_law_spoilt" (n + 3) (qSp n)
  | 0 => (fd_none T.f__law_spoilt sc__law_spoilt (by rintro ds w Q ⟨_, _, _, _, _, h, _⟩; simp [okD] at h)).mono (by omega)
  | n + 1 => fd__law_spoilt T (ok_spoilt T n) (Nat.le_refl _) (ok_take T) (by omega) (ok_oddT T) (by omega) (by rintro ds w Q ⟨a, f, d, rfl, _⟩; rfl) (by
    rintro d0 d1 w' Q ⟨a, f, d, e, hn60, hd, ht, hH, h⟩
    cases e
    have pd := okD_pl hd
    unfold rd__law_spoilt
    cases d1 with
    | tup ds0 =>
      obtain ⟨z, r, e0, hr3, hin⟩ := isW_parts (ht rfl)
      cases e0
      have hd' := hd
      simp only [okD, Bool.and_eq_true, List.all_eq_true, decide_eq_true_eq] at hd'
      obtain ⟨hl, ha⟩ := hd'
      have hdep : PV.dep (.tup (.str z :: r)) ≤ 64 := Nat.le_trans (okD_dep hd) (by omega)
      have hne : PV.eqb (.tup (.str z :: r)) (.tup []) = false := by simp [PV.eqb, PV.eqbs]
      have hlen : (PV.str z :: r).length ≤ 4 := by simpa using hr3
      have hpos : 1 ≤ (PV.str z :: r).length := by simp
      have hin' : ∀ x ∈ PV.str z :: r, isTup1 x = true → isW n x = true := by
        intro x hx hx1
        rcases List.mem_cons.mp hx with rfl | hx
        · simp [isTup1] at hx1
        · exact hin x hx hx1
      clear hin hr3 ht hd
      generalize (PV.str z :: r) = ds at *
      have c1 : ∀ l u, (cutD ds l u).length ≤ 4 := fun l u => Nat.le_trans (cutD_len ds l u) hlen
      have c2 : ∀ l u, ∀ x ∈ cutD ds l u, okD (n + 4) x = true := fun l u x hx => okD_le (ha x (cutD_mem hx)) (by omega)
      have c3 : ∀ x ∈ ds, okD (n + 4) x = true := fun x hx => okD_le (ha x hx) (by omega)
      walk_at "go"
      refine x_eq pd (by simp [PV.pl, PV.pls]) hdep ?_
      rw [hne]
      walk_at "go"
      refine ⟨a, 4, f + 4 * n + 3, rfl, by omega, by omega, hH.le (by omega), fun c w1 _ _ hH1 hf1 => ?_⟩
      walk_at "go"
      refine x_ite (fun h2 => ?_) fun h2 => ?_
      · walk_at "go"
        refine ⟨a, f, rfl, hH1.le (by omega), fun o w2 ho hH2 hf2 => ?_⟩
        exact h o w2 (okD_le ho (by omega)) hH2 (hf1.trans hf2)
      walk_at "go"
      refine ⟨a, 8, f + 4 * n + 2, rfl, by omega, by omega, hH1, fun how w2 h3 h4 hH2 hf2 => ?_⟩
      walk_at "go"
      refine x_ite (fun h5 => ?_) fun h5 => ?_
      · walk_at "go"
        refine ⟨a, f, rfl, hH2.le (by omega), fun o w3 ho hH3 hf3 => ?_⟩
        walk_at "go"
        refine x_addT (by rw [sizeLine_eq]; simp; omega) ?_
        walk_at "go"
        exact h _ w3 (okL (by simp; omega) (by simp only [List.mem_append, List.mem_cons, List.not_mem_nil, or_false]; rintro x (q | rfl); exact c3 x q; exact okD_le ho (by omega))) hH3 ((hf1.trans hf2).trans hf3)
      walk_at "go"
      refine x_ite (fun h6 => ?_) fun h6 => ?_
      · walk_at "go"
        exact h _ w2 (okL (Nat.le_trans (c1 _ _) (by omega)) (c2 _ _)) (hH2.le (by omega)) (hf1.trans hf2)
      walk_at "go"
      refine x_ite (fun h7 => ?_) fun h7 => ?_
      · walk_at "go"
        exact h _ w2 (okLl (by omega) c3) (hH2.le (by omega)) (hf1.trans hf2)
      walk_at "go"
      refine ⟨a, _, f + 4 * n + 1, rfl, by omega, by omega, hH2, fun k w3 h8 h9 hH3 hf3 => ?_⟩
      obtain ⟨x, hx, hxm⟩ := atI_lt (xs := ds) h8 h9
      walk_at "go"
      refine x_ixT hx ?_
      walk_at "go"
      refine ⟨a, f, x, rfl, by omega, ha x hxm, hin' x hxm, hH3.le (by omega), fun d' w4 hd' hH4 hf4 => ?_⟩
      have l1 := c1 none (some k)
      have l2 := c1 (some (k + 1)) none
      have l3 := cutD_hi ds h8
      have l4 := cutD_lo ds (i := k + 1) (by omega)
      walk_at "go"
      refine x_addT (by rw [sizeLine_eq]; simp; omega) ?_
      walk_at "go"
      refine x_addT (by rw [sizeLine_eq]; simp; omega) ?_
      walk_at "go"
      exact h _ w4 (okL (by simp; omega) (by simp only [List.mem_append, List.mem_cons, List.not_mem_nil, or_false]; rintro x ((q | rfl) | q); exact c2 _ _ x q; exact hd'; exact c2 _ _ x q)) hH4 (((hf1.trans hf2).trans hf3).trans hf4)
    | _ => first | (exfalso; simp [PV.pl] at pd; done) | (walk_at "go"; exact ⟨a, f, rfl, hH.le (by omega), fun o w2 ho hH2 hf2 => h o w2 (okD_le ho (by omega)) hH2 hf2⟩))
end
end Lw

namespace Lw
open PySem L2 Pd
local macro_rules | `(tactic| walk_at "go") => `(tactic| (repeat (first | with_reducible refine x_v0 ?_ | with_reducible refine x_v1 ?_ | with_reducible refine x_v2 ?_ | with_reducible refine x_v3 ?_ | with_reducible refine x_v4 ?_ | with_reducible refine x_v5 ?_ | with_reducible refine x_v6 ?_ | with_reducible refine x_v7 ?_ | with_reducible refine x_v8 ?_ | with_reducible refine x_v9 ?_ | with_reducible refine x_v10 ?_ | with_reducible refine x_v11 ?_ | with_reducible refine x_v12 ?_ | with_reducible refine x_v13 ?_ | with_reducible refine x_v14 ?_ | with_reducible refine x_v15 ?_ | with_reducible refine x_v16 ?_ | with_reducible refine x_v17 ?_ | with_reducible refine x_v18 ?_ | with_reducible refine x_v19 ?_ | with_reducible refine x_v20 ?_ | with_reducible refine x_v21 ?_ | with_reducible refine x_v22 ?_ | with_reducible refine x_v23 ?_ | with_reducible refine x_v24 ?_ | with_reducible refine x_v25 ?_ | with_reducible refine x_seq ?_ | with_reducible refine x_next ?_ | with_reducible refine x_break ?_ | with_reducible refine x_cont ?_ | with_reducible refine x_asg ?_ | with_reducible refine x_drop ?_ | with_reducible refine x_ret ?_ | with_reducible refine x_retN ?_ | with_reducible refine x_if ?_ | with_reducible refine x_for ?_ | with_reducible refine x_name ?_ | with_reducible refine x_gcons ?_ | with_reducible refine x_gnil ?_ | with_reducible refine x_gsubc ?_ | with_reducible refine x_c ?_ | with_reducible refine x_getC ?_ | with_reducible refine x_rgetS ?_ | with_reducible refine x_rgetI ?_ | with_reducible refine x_ixD ?_ | with_reducible refine x_op ?_ | with_reducible refine x_andV ?_ | with_reducible refine x_orV ?_ | with_reducible refine x_notV ?_ | with_reducible refine x_ifE ?_ | with_reducible refine x_neg ?_ | with_reducible refine x_rneg ?_ | with_reducible refine x_chain ?_ | with_reducible refine x_chain3 ?_ | with_reducible refine x_par ?_ | with_reducible refine x_par3 ?_ | with_reducible refine x_onPar ?_ | with_reducible refine x_onPar3 ?_ | with_reducible refine x_tup ?_ | with_reducible refine x_lst ?_ | with_reducible refine x_mlst ?_ | with_reducible refine x_cons ?_ | with_reducible refine x_nil ?_ | with_reducible refine x_cb ?_ | with_reducible refine x_call ?_ | with_reducible refine x_ixc ?_ | with_reducible refine x_rixl ?_ | with_reducible refine x_rixt ?_ | with_reducible refine x_rixz ?_ | with_reducible refine x_sl ?_ | with_reducible refine x_no ?_ | with_reducible refine x_part ?_ | with_reducible refine x_onI ?_ | with_reducible refine x_onB ?_ | with_reducible refine x_onS ?_ | with_reducible refine x_sll ?_ | with_reducible refine x_slz ?_ | with_reducible refine x_slt ?_ | with_reducible refine x_lc ?_ | with_reducible refine x_seqI ?_ | with_reducible refine x_sql ?_ | with_reducible refine x_sqt ?_ | with_reducible refine x_sqz ?_ | with_reducible refine x_sqs ?_ | with_reducible refine x_rng1 ?_ | with_reducible refine x_rng2 ?_ | with_reducible refine x_join ?_ | with_reducible refine x_test ?_ | with_reducible refine x_andT ?_ | with_reducible refine x_orT ?_ | with_reducible refine x_notT ?_ | with_reducible refine x_addI ?_ | with_reducible refine x_sub ?_ | with_reducible refine x_eqI ?_ | with_reducible refine x_neI ?_ | with_reducible refine x_eqS ?_ | with_reducible refine x_neS ?_ | with_reducible refine x_eqB ?_ | with_reducible refine x_ltI ?_ | with_reducible refine x_leI ?_ | with_reducible refine x_gtI ?_ | with_reducible refine x_geI ?_ | with_reducible refine x_ltS ?_ | with_reducible refine x_gtS ?_ | with_reducible refine x_isnt ?_ | with_reducible refine x_isB ?_ | with_reducible refine x_isnB ?_ | with_reducible refine x_lenL ?_ | with_reducible refine x_lenT ?_ | with_reducible refine x_lenZ ?_ | with_reducible refine x_abs ?_ | with_reducible refine x_max ?_ | with_reducible refine x_min ?_ | with_reducible refine x_intI ?_ | with_reducible refine x_intB ?_ | with_reducible refine x_listL ?_ | with_reducible refine x_listT ?_ | with_reducible refine x_tupL ?_ | with_reducible refine x_tupT ?_ | with_reducible refine x_at0 ?_ | with_reducible refine x_at1 ?_ | with_reducible refine x_at2 ?_ | with_reducible refine x_at3 ?_ | with_reducible refine x_at4 ?_ | with_reducible refine x_at5 ?_ | with_reducible refine x_at6 ?_ | with_reducible refine x_rixr (by first | assumption | exact wset_same) ?_ | with_reducible refine x_lenR (by first | assumption | exact wset_same) ?_ | ((with_reducible refine x_rsubc (by first | assumption | exact wset_same) ?_ ?_); (first | (focus (simp; done)) | (focus (simp; omega)))) | ((with_reducible refine x_gtup ?_ ?_); (first | rfl | (focus (simp; done)))) | ((with_reducible refine x_cI ?_ ?_); (first | exact True.intro | assumption)) | ((with_reducible refine x_cI2 ?_ ?_); (first | exact True.intro | assumption)) | ((with_reducible refine x_addL ?_ ?_); (first | (focus (show _ ≤ sizeLine; rw [sizeLine_eq]; simp; done)) | omega)) | ((with_reducible refine x_addT ?_ ?_); (first | (focus (show _ ≤ sizeLine; rw [sizeLine_eq]; simp; done)) | omega)) | ((with_reducible refine x_addS ?_ ?_); (first | (focus (show _ ≤ sizeLine; rw [sizeLine_eq]; simp; done)) | omega)) | ((with_reducible refine x_mod ?_ ?_); (first | omega | assumption)) | ((with_reducible refine x_fdiv ?_ ?_ ?_); (first | omega | assumption); (first | omega | assumption)) | ((with_reducible refine x_mul ?_ ?_); (first | (left; omega) | (right; omega))) | ((with_reducible refine x_pow ?_ ?_ ?_ ?_); decide; decide; decide; (try simp only [Int.reduceToNat, Int.reducePow])) | ((with_reducible refine x_and ?_ ?_); (first | (focus (show _ ≤ sizeLine; rw [sizeLine_eq]; simp; done)) | omega)) | ((with_reducible refine x_rrng1 ?_ ?_ ?_); omega; omega) | ((with_reducible refine x_iteT ?_ ?_); (first | omega | assumption)) | ((with_reducible refine x_iteF ?_ ?_); (first | omega | assumption)) | ((with_reducible refine x_iteNT ?_ ?_); (first | omega | assumption)) | ((with_reducible refine x_iteNF ?_ ?_); (first | omega | assumption)) | with_reducible refine x_iTrue ?_ | with_reducible refine x_iFalse ?_ | with_reducible refine L2.iteT ?_ | with_reducible refine L2.iteF ?_ | simp only [wset_wset] | ((with_reducible refine x_iteV ?_ ?_); focus (first | rfl | assumption)) | ((with_reducible refine x_iteW ?_ ?_); focus (first | rfl | assumption)) | ((with_reducible refine x_iteNV ?_ ?_); focus (first | rfl | assumption)) | ((with_reducible refine x_iteNW ?_ ?_); focus (first | rfl | assumption)) | dsimp only [List.set])))

section
variable {P : Program} {w : World} {K : Frag} {mg : Str → Option Value} {base : Heap}
def qRight (n : Nat) : PSp := fun ds w Q => ∃ d, ds = [d] ∧ okD n d = true ∧ Q (.bl true) w
theorem ok_right (T : Tx K mg) (n : Nat) : FD P w K mg base "_law_right" (n + 5) (qRight n) := fd__law_right T (ok_due T n) (by omega) (ok_way T n) (by omega) (by rintro ds w Q ⟨d, rfl, _⟩; rfl) (by
  rintro d0 w' Q ⟨d, e, hd, h⟩
  cases e
  unfold rd__law_right
  walk_at "go"
  refine ⟨_, rfl, hd, ?_⟩
  walk_at "go"
  refine ⟨_, rfl, hd, ?_⟩
  walk_at "go"
  rw [beq_self_eq_true]
  exact h)
end
end Lw

namespace Lw
open PySem L2 Pd
local macro_rules | `(tactic| walk_at "go") => `(tactic| (repeat (first | with_reducible refine x_v0 ?_ | with_reducible refine x_v1 ?_ | with_reducible refine x_v2 ?_ | with_reducible refine x_v3 ?_ | with_reducible refine x_v4 ?_ | with_reducible refine x_v5 ?_ | with_reducible refine x_v6 ?_ | with_reducible refine x_v7 ?_ | with_reducible refine x_v8 ?_ | with_reducible refine x_v9 ?_ | with_reducible refine x_v10 ?_ | with_reducible refine x_v11 ?_ | with_reducible refine x_v12 ?_ | with_reducible refine x_v13 ?_ | with_reducible refine x_v14 ?_ | with_reducible refine x_v15 ?_ | with_reducible refine x_v16 ?_ | with_reducible refine x_v17 ?_ | with_reducible refine x_v18 ?_ | with_reducible refine x_v19 ?_ | with_reducible refine x_v20 ?_ | with_reducible refine x_v21 ?_ | with_reducible refine x_v22 ?_ | with_reducible refine x_v23 ?_ | with_reducible refine x_v24 ?_ | with_reducible refine x_v25 ?_ | with_reducible refine x_seq ?_ | with_reducible refine x_next ?_ | with_reducible refine x_break ?_ | with_reducible refine x_cont ?_ | with_reducible refine x_asg ?_ | with_reducible refine x_drop ?_ | with_reducible refine x_ret ?_ | with_reducible refine x_retN ?_ | with_reducible refine x_if ?_ | with_reducible refine x_for ?_ | with_reducible refine x_name ?_ | with_reducible refine x_gcons ?_ | with_reducible refine x_gnil ?_ | with_reducible refine x_gsubc ?_ | with_reducible refine x_c ?_ | with_reducible refine x_getC ?_ | with_reducible refine x_rgetS ?_ | with_reducible refine x_rgetI ?_ | with_reducible refine x_ixD ?_ | with_reducible refine x_op ?_ | with_reducible refine x_andV ?_ | with_reducible refine x_orV ?_ | with_reducible refine x_notV ?_ | with_reducible refine x_ifE ?_ | with_reducible refine x_neg ?_ | with_reducible refine x_rneg ?_ | with_reducible refine x_chain ?_ | with_reducible refine x_chain3 ?_ | with_reducible refine x_par ?_ | with_reducible refine x_par3 ?_ | with_reducible refine x_onPar ?_ | with_reducible refine x_onPar3 ?_ | with_reducible refine x_tup ?_ | with_reducible refine x_lst ?_ | with_reducible refine x_mlst ?_ | with_reducible refine x_cons ?_ | with_reducible refine x_nil ?_ | with_reducible refine x_cb ?_ | with_reducible refine x_call ?_ | with_reducible refine x_ixc ?_ | with_reducible refine x_rixl ?_ | with_reducible refine x_rixt ?_ | with_reducible refine x_rixz ?_ | with_reducible refine x_sl ?_ | with_reducible refine x_no ?_ | with_reducible refine x_part ?_ | with_reducible refine x_onI ?_ | with_reducible refine x_onB ?_ | with_reducible refine x_onS ?_ | with_reducible refine x_sll ?_ | with_reducible refine x_slz ?_ | with_reducible refine x_slt ?_ | with_reducible refine x_lc ?_ | with_reducible refine x_seqI ?_ | with_reducible refine x_sql ?_ | with_reducible refine x_sqt ?_ | with_reducible refine x_sqz ?_ | with_reducible refine x_sqs ?_ | with_reducible refine x_rng1 ?_ | with_reducible refine x_rng2 ?_ | with_reducible refine x_join ?_ | with_reducible refine x_test ?_ | with_reducible refine x_andT ?_ | with_reducible refine x_orT ?_ | with_reducible refine x_notT ?_ | with_reducible refine x_addI ?_ | with_reducible refine x_sub ?_ | with_reducible refine x_eqI ?_ | with_reducible refine x_neI ?_ | with_reducible refine x_eqS ?_ | with_reducible refine x_neS ?_ | with_reducible refine x_eqB ?_ | with_reducible refine x_ltI ?_ | with_reducible refine x_leI ?_ | with_reducible refine x_gtI ?_ | with_reducible refine x_geI ?_ | with_reducible refine x_ltS ?_ | with_reducible refine x_gtS ?_ | with_reducible refine x_isnt ?_ | with_reducible refine x_isB ?_ | with_reducible refine x_isnB ?_ | with_reducible refine x_lenL ?_ | with_reducible refine x_lenT ?_ | with_reducible refine x_lenZ ?_ | with_reducible refine x_abs ?_ | with_reducible refine x_max ?_ | with_reducible refine x_min ?_ | with_reducible refine x_intI ?_ | with_reducible refine x_intB ?_ | with_reducible refine x_listL ?_ | with_reducible refine x_listT ?_ | with_reducible refine x_tupL ?_ | with_reducible refine x_tupT ?_ | with_reducible refine x_at0 ?_ | with_reducible refine x_at1 ?_ | with_reducible refine x_at2 ?_ | with_reducible refine x_at3 ?_ | with_reducible refine x_at4 ?_ | with_reducible refine x_at5 ?_ | with_reducible refine x_at6 ?_ | with_reducible refine x_rixr (by first | assumption | exact wset_same) ?_ | with_reducible refine x_lenR (by first | assumption | exact wset_same) ?_ | ((with_reducible refine x_rsubc (by first | assumption | exact wset_same) ?_ ?_); (first | (focus (simp; done)) | (focus (simp; omega)))) | ((with_reducible refine x_gtup ?_ ?_); (first | rfl | (focus (simp; done)))) | ((with_reducible refine x_cI ?_ ?_); (first | exact True.intro | assumption)) | ((with_reducible refine x_cI2 ?_ ?_); (first | exact True.intro | assumption)) | ((with_reducible refine x_addL ?_ ?_); (first | (focus (show _ ≤ sizeLine; rw [sizeLine_eq]; simp; done)) | omega)) | ((with_reducible refine x_addT ?_ ?_); (first | (focus (show _ ≤ sizeLine; rw [sizeLine_eq]; simp; done)) | omega)) | ((with_reducible refine x_addS ?_ ?_); (first | (focus (show _ ≤ sizeLine; rw [sizeLine_eq]; simp; done)) | omega)) | ((with_reducible refine x_mod ?_ ?_); (first | omega | assumption)) | ((with_reducible refine x_fdiv ?_ ?_ ?_); (first | omega | assumption); (first | omega | assumption)) | ((with_reducible refine x_mul ?_ ?_); (first | (left; omega) | (right; omega))) | ((with_reducible refine x_pow ?_ ?_ ?_ ?_); decide; decide; decide; (try simp only [Int.reduceToNat, Int.reducePow])) | ((with_reducible refine x_and ?_ ?_); (first | (focus (show _ ≤ sizeLine; rw [sizeLine_eq]; simp; done)) | omega)) | ((with_reducible refine x_rrng1 ?_ ?_ ?_); omega; omega) | ((with_reducible refine x_iteT ?_ ?_); (first | omega | assumption)) | ((with_reducible refine x_iteF ?_ ?_); (first | omega | assumption)) | ((with_reducible refine x_iteNT ?_ ?_); (first | omega | assumption)) | ((with_reducible refine x_iteNF ?_ ?_); (first | omega | assumption)) | with_reducible refine x_iTrue ?_ | with_reducible refine x_iFalse ?_ | with_reducible refine L2.iteT ?_ | with_reducible refine L2.iteF ?_ | simp only [wset_wset] | ((with_reducible refine x_iteV ?_ ?_); focus (first | rfl | assumption)) | ((with_reducible refine x_iteW ?_ ?_); focus (first | rfl | assumption)) | ((with_reducible refine x_iteNV ?_ ?_); focus (first | rfl | assumption)) | ((with_reducible refine x_iteNW ?_ ?_); focus (first | rfl | assumption)) | dsimp only [List.set])))
section
variable {P : Program} {w : World} {K : Frag} {mg : Str → Option Value} {base : Heap}
theorem wkThen : wk "then" = 2 := by decide +kernel
theorem ok_law (T : Tx K mg) {fa : Addr} {fd : FuncData} (F : Fun K "law" "law" s_law fa fd) : FnOk P w K mg base CX0 30 fa fd ["_law_script"] (upSp K pLaw) :=
  fn_law T F (ok_right T 18) (by omega) (ok_oddT T) (by omega) (ok_spoilt T 14) (by omega) (ok_way T 18) (by omega) (ok_mway T 13 (by omega)) (by omega) (ok_kinds T) (by omega) (ok_handK T) (by omega) (k := 29) (by rintro ds w Q ⟨ns, rfl, _⟩; rfl) (by
  rintro d0 w' Q ⟨ns, e, hlen, rfl, h⟩
  cases e
  unfold rd_law
  walk_at "go"
  refine for_ind (fun rest ρ w2 => ∃ o2 t m, ρ = [some (.scr (ns.map PV.int)), some t, o2, none, none, none] ∧ isW m t = true ∧ okD (m + 1) t = true ∧ m + rest.length = 13 ∧ ∀ x ∈ rest, ∃ i : Int, x = .int i ∧ 0 ≤ i) ?_ ?_ _ _ _ ⟨none, _, 1, rfl, wEmptyT, okEmptyT, by decide, ?_⟩
  · rintro ρ w2 ⟨o2, t, m, rfl, h1, h2, h3, _⟩
    have hm : m = 13 := by simpa using h3
    subst hm
    walk_at "go"
    refine ⟨_, rfl, okD_le h2 (by omega), ?_⟩
    rw [isW_le h1 (by omega)]
    walk_at "go"
    cases t with
    | tup ds =>
      walk_at "go"
      have h2' := h2
      simp only [okD, Bool.and_eq_true, List.all_eq_true, decide_eq_true_eq] at h2'
      refine ⟨_, rfl, okL (by simp) ?_, ?_⟩
      · simp only [List.mem_cons, List.not_mem_nil, or_false]; rintro x (rfl | rfl)
        · exact okS (by decide +kernel)
        · exact okD_le (okLl h2'.1 h2'.2) (by omega)
      rw [show isW 18 (.tup [.str "again", .lst ds]) = false by rw [isW_s, wkAgain]; rfl]
      walk_at "go"
      refine for_ind (fun rest ρ w2 => ∃ o2 o3 o4 o5, ρ = [some (.scr (ns.map PV.int)), some (.tup ds), o2, o3, o4, o5] ∧ ∀ x ∈ rest, ∃ i : Int, x = .int i ∧ 0 ≤ i ∧ i < 1000000) ?_ ?_ _ _ _ ⟨_, _, _, _, rfl, ?_⟩
      · rintro ρ w3 ⟨o2, o3, o4, o5, rfl, _⟩
        walk_at "go"
        exact h w3
      · rintro d r ρ w3 N hN ⟨o2, o3, o4, o5, rfl, hr⟩
        obtain ⟨i, rfl, hi0, hi1⟩ := hr d (List.mem_cons_self ..)
        walk_at "go"
        refine ⟨ns, i, rfl, hi0, hi1, fun a m ha hm => ?_⟩
        have hH : Hnd (wset w3 a m) a (2 ^ 39) := ⟨m, wset_same, hm⟩
        generalize wset w3 a m = w4 at hH
        walk_at "go"
        refine ⟨a, 2 ^ 38, rfl, hH.le (by omega), fun ks w5 hks hH5 _ => ?_⟩
        cases ks with
        | lst ks =>
          walk_at "go"
          refine ⟨12, by omega, 2, by omega, a, 2 ^ 37, ks, rfl, hks, hH5.le (by decide), fun wy w6 hw1 hw2 hH6 _ => ?_⟩
          walk_at "go"
          refine ⟨_, rfl, okD_le hw2 (by omega), ?_⟩
          rw [isW_le hw1 (by omega)]
          walk_at "go"
          refine for_ind (fun rest ρ w7 => ∃ o5, ρ = [some (.scr (ns.map PV.int)), some (.tup ds), some (.int i), some (.ref a), some wy, o5] ∧ Hnd w7 a (100 * rest.length)) ?_ ?_ _ _ _ ⟨_, rfl, hH6.le (by rw [nums_length]; decide)⟩
          · rintro ρ w7 ⟨o5, rfl, _⟩
            walk_at "go"
            exact hN _ w7 ⟨_, _, _, _, rfl, fun x hx => hr x (List.mem_cons_of_mem _ hx)⟩
          · rintro d2 r2 ρ w7 N2 hN2 ⟨o5, rfl, hH7⟩
            walk_at "go"
            refine ⟨a, 100 * r2.length + 44, wy, rfl, by omega, okD_le hw2 (by omega), fun _ => isW_le hw1 (by omega), hH7.le (by simp; omega), fun d' w8 hd' hH8 _ => ?_⟩
            walk_at "go"
            refine ⟨d', rfl, hd', ?_⟩
            walk_at "go"
            refine ⟨a, 100 * r2.length, rfl, hH8.le (by omega), fun d3 w9 hd3 hH9 _ => ?_⟩
            walk_at "go"
            refine ⟨d3, rfl, okD_le hd3 (by omega), ?_⟩
            walk_at "go"
            exact hN2 _ w9 ⟨_, rfl, hH9⟩
        | _ => simp [kindsB] at hks
      · intro x hx
        rw [nums_zero] at hx
        obtain ⟨i, hi, rfl⟩ := List.mem_map.mp hx
        rw [List.mem_range] at hi
        refine ⟨_, rfl, by omega, ?_⟩
        split at hi <;> omega
    | _ => simp [isW] at h1
  · rintro d r ρ w2 N hN ⟨o2, t, m, rfl, h1, h2, h3, h4⟩
    obtain ⟨i, rfl, hi⟩ := h4 d (List.mem_cons_self ..)
    walk_at "go"
    refine x_ixTB (fun t => isW (m + 1) t && okD (m + 2) t) (Int.emod_nonneg _ (by omega)) (by have := Int.emod_lt_of_pos i (b := 3) (by omega); simp; omega) ?_ fun t' ht' _ => ?_
    · have m1 : 1 ≤ m := by
        cases m with
        | zero => simp [isW] at h1
        | succ m => omega
      have ta : isW m (.tup [.str "empty"]) = true := isW_le (wEmptyT (n := 0)) m1
      have oa : okD (m + 1) (.tup [.str "empty"]) = true := okD_le (okEmptyT (n := 0)) (by omega)
      simp only [List.all_cons, List.all_nil, Bool.and_true, Bool.and_eq_true]
      refine ⟨⟨wAgainT h1, okL (by simp) ?_⟩, ⟨wThenT wkThen ta h1, okL (by simp) ?_⟩, ⟨wManyT h1 (by decide), okL (by simp) ?_⟩⟩
      · simp only [List.mem_cons, List.not_mem_nil, or_false]; rintro x (rfl | rfl); exact okS (by decide +kernel); exact h2
      · simp only [List.mem_cons, List.not_mem_nil, or_false]; rintro x (rfl | rfl | rfl); exact okS (by decide +kernel); exact oa; exact h2
      · simp only [List.mem_cons, List.not_mem_nil, or_false]; rintro x (rfl | rfl | rfl | rfl); exact okS (by decide +kernel); exact h2; rfl; rfl
    walk_at "go"
    simp only [Bool.and_eq_true] at ht'
    exact hN _ w2 ⟨_, t', m + 1, rfl, ht'.1, ht'.2, by simp at h3; omega, fun x hx => h4 x (List.mem_cons_of_mem _ hx)⟩
  · intro x hx
    rw [nums_zero] at hx
    obtain ⟨i, hi, rfl⟩ := List.mem_map.mp hx
    exact ⟨_, rfl, by omega⟩)
end
end Lw

namespace Lw
open PySem L2 Pd
theorem all_mk {K : Frag} {h : Heap} {mg : Str → Option Value} (X : K.In h) (G : h.Ns mainGlobals mg)
    {f0 : Addr} {oc0 kV0 dc0 pm0 cd0 ct0 : Value} {od0 an0 : Option Addr} {sl0 : Array (Option Value)}
    {f1 : Addr} {oc1 kV1 dc1 pm1 cd1 ct1 : Value} {od1 an1 : Option Addr} {sl1 : Array (Option Value)}
    {f2 : Addr} {oc2 kV2 dc2 pm2 cd2 ct2 : Value} {od2 an2 : Option Addr} {sl2 : Array (Option Value)}
    {f3 : Addr} {oc3 kV3 dc3 pm3 cd3 ct3 : Value} {od3 an3 : Option Addr} {sl3 : Array (Option Value)}
    {f4 : Addr} {oc4 kV4 dc4 pm4 cd4 ct4 : Value} {od4 an4 : Option Addr} {sl4 : Array (Option Value)}
    {f5 : Addr} {oc5 kV5 dc5 pm5 cd5 ct5 : Value} {od5 an5 : Option Addr} {sl5 : Array (Option Value)}
    {f6 : Addr} {oc6 kV6 dc6 pm6 cd6 ct6 : Value} {od6 an6 : Option Addr} {sl6 : Array (Option Value)}
    {f7 : Addr} {oc7 kV7 dc7 pm7 cd7 ct7 : Value} {od7 an7 : Option Addr} {sl7 : Array (Option Value)}
    {f8 : Addr} {oc8 kV8 dc8 pm8 cd8 ct8 : Value} {od8 an8 : Option Addr} {sl8 : Array (Option Value)}
    {f9 : Addr} {oc9 kV9 dc9 pm9 cd9 ct9 : Value} {od9 an9 : Option Addr} {sl9 : Array (Option Value)}
    {f10 : Addr} {oc10 kV10 dc10 pm10 cd10 ct10 : Value} {od10 an10 : Option Addr} {sl10 : Array (Option Value)}
    {f11 : Addr} {oc11 kV11 dc11 pm11 cd11 ct11 : Value} {od11 an11 : Option Addr} {sl11 : Array (Option Value)}
    {f12 : Addr} {oc12 kV12 dc12 pm12 cd12 ct12 : Value} {od12 an12 : Option Addr} {sl12 : Array (Option Value)}
    {f13 : Addr} {oc13 kV13 dc13 pm13 cd13 ct13 : Value} {od13 an13 : Option Addr} {sl13 : Array (Option Value)}
    {f14 : Addr} {oc14 kV14 dc14 pm14 cd14 ct14 : Value} {od14 an14 : Option Addr} {sl14 : Array (Option Value)}
    {f15 : Addr} {oc15 kV15 dc15 pm15 cd15 ct15 : Value} {od15 an15 : Option Addr} {sl15 : Array (Option Value)}
    {f16 : Addr} {oc16 kV16 dc16 pm16 cd16 ct16 : Value} {od16 an16 : Option Addr} {sl16 : Array (Option Value)}
    {gt_LETTERS : Tok}
    {gt_MOST_LETTERS : Tok}
    {gt_MOST_TIMES : Tok}
    (a0 : PySem.W.nsIn K mainGlobals "is_text" = some (some (.ref f0))) (l0 : K.lookup f0 = some ⟨oc0, od0, .func (PySem.W.fnOf "is_text" "is_text" (defArgs s_is_text) (defBody s_is_text) (defScope s_is_text) .none kV0 dc0 pm0 an0 cd0 ct0), sl0⟩) (c0 : PySem.W.codeIn K cd0 "is_text" = true) (k0 : PySem.W.keepIn K (.ref f0) = true)
    (a1 : PySem.W.nsIn K mainGlobals "is_name" = some (some (.ref f1))) (l1 : K.lookup f1 = some ⟨oc1, od1, .func (PySem.W.fnOf "is_name" "is_name" (defArgs s_is_name) (defBody s_is_name) (defScope s_is_name) .none kV1 dc1 pm1 an1 cd1 ct1), sl1⟩) (c1 : PySem.W.codeIn K cd1 "is_name" = true) (k1 : PySem.W.keepIn K (.ref f1) = true)
    (a2 : PySem.W.nsIn K mainGlobals "is_times" = some (some (.ref f2))) (l2 : K.lookup f2 = some ⟨oc2, od2, .func (PySem.W.fnOf "is_times" "is_times" (defArgs s_is_times) (defBody s_is_times) (defScope s_is_times) .none kV2 dc2 pm2 an2 cd2 ct2), sl2⟩) (c2 : PySem.W.codeIn K cd2 "is_times" = true) (k2 : PySem.W.keepIn K (.ref f2) = true)
    (a3 : PySem.W.nsIn K mainGlobals "is_step" = some (some (.ref f3))) (l3 : K.lookup f3 = some ⟨oc3, od3, .func (PySem.W.fnOf "is_step" "is_step" (defArgs s_is_step) (defBody s_is_step) (defScope s_is_step) .none kV3 dc3 pm3 an3 cd3 ct3), sl3⟩) (c3 : PySem.W.codeIn K cd3 "is_step" = true) (k3 : PySem.W.keepIn K (.ref f3) = true)
    (a4 : PySem.W.nsIn K mainGlobals "is_way" = some (some (.ref f4))) (l4 : K.lookup f4 = some ⟨oc4, od4, .func (PySem.W.fnOf "is_way" "is_way" (defArgs s_is_way) (defBody s_is_way) (defScope s_is_way) .none kV4 dc4 pm4 an4 cd4 ct4), sl4⟩) (c4 : PySem.W.codeIn K cd4 "is_way" = true) (k4 : PySem.W.keepIn K (.ref f4) = true)
    (a5 : PySem.W.nsIn K mainGlobals "_law_hand" = some (some (.ref f5))) (l5 : K.lookup f5 = some ⟨oc5, od5, .func (PySem.W.fnOf "_law_hand" "_law_hand" (defArgs s__law_hand) (defBody s__law_hand) (defScope s__law_hand) .none kV5 dc5 pm5 an5 cd5 ct5), sl5⟩) (c5 : PySem.W.codeIn K cd5 "_law_hand" = true) (k5 : PySem.W.keepIn K (.ref f5) = true)
    (a6 : PySem.W.nsIn K mainGlobals "_law_take" = some (some (.ref f6))) (l6 : K.lookup f6 = some ⟨oc6, od6, .func (PySem.W.fnOf "_law_take" "_law_take" (defArgs s__law_take) (defBody s__law_take) (defScope s__law_take) .none kV6 dc6 pm6 an6 cd6 ct6), sl6⟩) (c6 : PySem.W.codeIn K cd6 "_law_take" = true) (k6 : PySem.W.keepIn K (.ref f6) = true)
    (a7 : PySem.W.nsIn K mainGlobals "_law_kinds" = some (some (.ref f7))) (l7 : K.lookup f7 = some ⟨oc7, od7, .func (PySem.W.fnOf "_law_kinds" "_law_kinds" (defArgs s__law_kinds) (defBody s__law_kinds) (defScope s__law_kinds) .none kV7 dc7 pm7 an7 cd7 ct7), sl7⟩) (c7 : PySem.W.codeIn K cd7 "_law_kinds" = true) (k7 : PySem.W.keepIn K (.ref f7) = true)
    (a8 : PySem.W.nsIn K mainGlobals "_law_leaf" = some (some (.ref f8))) (l8 : K.lookup f8 = some ⟨oc8, od8, .func (PySem.W.fnOf "_law_leaf" "_law_leaf" (defArgs s__law_leaf) (defBody s__law_leaf) (defScope s__law_leaf) .none kV8 dc8 pm8 an8 cd8 ct8), sl8⟩) (c8 : PySem.W.codeIn K cd8 "_law_leaf" = true) (k8 : PySem.W.keepIn K (.ref f8) = true)
    (a9 : PySem.W.nsIn K mainGlobals "_law_way" = some (some (.ref f9))) (l9 : K.lookup f9 = some ⟨oc9, od9, .func (PySem.W.fnOf "_law_way" "_law_way" (defArgs s__law_way) (defBody s__law_way) (defScope s__law_way) .none kV9 dc9 pm9 an9 cd9 ct9), sl9⟩) (c9 : PySem.W.codeIn K cd9 "_law_way" = true) (k9 : PySem.W.keepIn K (.ref f9) = true)
    (a10 : PySem.W.nsIn K mainGlobals "_law_is_name" = some (some (.ref f10))) (l10 : K.lookup f10 = some ⟨oc10, od10, .func (PySem.W.fnOf "_law_is_name" "_law_is_name" (defArgs s__law_is_name) (defBody s__law_is_name) (defScope s__law_is_name) .none kV10 dc10 pm10 an10 cd10 ct10), sl10⟩) (c10 : PySem.W.codeIn K cd10 "_law_is_name" = true) (k10 : PySem.W.keepIn K (.ref f10) = true)
    (a11 : PySem.W.nsIn K mainGlobals "_law_is_times" = some (some (.ref f11))) (l11 : K.lookup f11 = some ⟨oc11, od11, .func (PySem.W.fnOf "_law_is_times" "_law_is_times" (defArgs s__law_is_times) (defBody s__law_is_times) (defScope s__law_is_times) .none kV11 dc11 pm11 an11 cd11 ct11), sl11⟩) (c11 : PySem.W.codeIn K cd11 "_law_is_times" = true) (k11 : PySem.W.keepIn K (.ref f11) = true)
    (a12 : PySem.W.nsIn K mainGlobals "_law_due" = some (some (.ref f12))) (l12 : K.lookup f12 = some ⟨oc12, od12, .func (PySem.W.fnOf "_law_due" "_law_due" (defArgs s__law_due) (defBody s__law_due) (defScope s__law_due) .none kV12 dc12 pm12 an12 cd12 ct12), sl12⟩) (c12 : PySem.W.codeIn K cd12 "_law_due" = true) (k12 : PySem.W.keepIn K (.ref f12) = true)
    (a13 : PySem.W.nsIn K mainGlobals "_law_odd" = some (some (.ref f13))) (l13 : K.lookup f13 = some ⟨oc13, od13, .func (PySem.W.fnOf "_law_odd" "_law_odd" (defArgs s__law_odd) (defBody s__law_odd) (defScope s__law_odd) .none kV13 dc13 pm13 an13 cd13 ct13), sl13⟩) (c13 : PySem.W.codeIn K cd13 "_law_odd" = true) (k13 : PySem.W.keepIn K (.ref f13) = true)
    (a14 : PySem.W.nsIn K mainGlobals "_law_spoilt" = some (some (.ref f14))) (l14 : K.lookup f14 = some ⟨oc14, od14, .func (PySem.W.fnOf "_law_spoilt" "_law_spoilt" (defArgs s__law_spoilt) (defBody s__law_spoilt) (defScope s__law_spoilt) .none kV14 dc14 pm14 an14 cd14 ct14), sl14⟩) (c14 : PySem.W.codeIn K cd14 "_law_spoilt" = true) (k14 : PySem.W.keepIn K (.ref f14) = true)
    (a15 : PySem.W.nsIn K mainGlobals "_law_right" = some (some (.ref f15))) (l15 : K.lookup f15 = some ⟨oc15, od15, .func (PySem.W.fnOf "_law_right" "_law_right" (defArgs s__law_right) (defBody s__law_right) (defScope s__law_right) .none kV15 dc15 pm15 an15 cd15 ct15), sl15⟩) (c15 : PySem.W.codeIn K cd15 "_law_right" = true) (k15 : PySem.W.keepIn K (.ref f15) = true)
    (a16 : PySem.W.nsIn K mainGlobals "law" = some (some (.ref f16))) (l16 : K.lookup f16 = some ⟨oc16, od16, .func (PySem.W.fnOf "law" "law" (defArgs s_law) (defBody s_law) (defScope s_law) .none kV16 dc16 pm16 an16 cd16 ct16), sl16⟩) (c16 : PySem.W.codeIn K cd16 "law" = true) (k16 : PySem.W.keepIn K (.ref f16) = true)
    (z_abs : PySem.W.nsIn K mainGlobals "abs" = some none)
    (z_all : PySem.W.nsIn K mainGlobals "all" = some none)
    (z_bool : PySem.W.nsIn K mainGlobals "bool" = some none)
    (z_int : PySem.W.nsIn K mainGlobals "int" = some none)
    (z_isinstance : PySem.W.nsIn K mainGlobals "isinstance" = some none)
    (z_len : PySem.W.nsIn K mainGlobals "len" = some none)
    (z_list : PySem.W.nsIn K mainGlobals "list" = some none)
    (z_min : PySem.W.nsIn K mainGlobals "min" = some none)
    (z_range : PySem.W.nsIn K mainGlobals "range" = some none)
    (z_str : PySem.W.nsIn K mainGlobals "str" = some none)
    (z_tuple : PySem.W.nsIn K mainGlobals "tuple" = some none)
    (g_LETTERS : PySem.W.nsIn K mainGlobals "LETTERS" = some (some (.str "abcdefghijklmnopqrstuvwxyz" gt_LETTERS)))
    (g_MOST_LETTERS : PySem.W.nsIn K mainGlobals "MOST_LETTERS" = some (some (.int 8 gt_MOST_LETTERS)))
    (g_MOST_TIMES : PySem.W.nsIn K mainGlobals "MOST_TIMES" = some (some (.int 6 gt_MOST_TIMES))) :
    Tx K mg ∧ ∀ fa : Addr, mg "law" = some (.ref fa) → ∃ fd, Fun K "law" "law" s_law fa fd := by
  refine ⟨⟨fx_mk X G a0 l0 c0 k0 fun _ _ _ _ _ _ us hl => match us, hl with | [_], _ => rfl,
    fx_mk X G a1 l1 c1 k1 fun _ _ _ _ _ _ us hl => match us, hl with | [_], _ => rfl,
    fx_mk X G a2 l2 c2 k2 fun _ _ _ _ _ _ us hl => match us, hl with | [_, _], _ => rfl,
    fx_mk X G a3 l3 c3 k3 fun _ _ _ _ _ _ us hl => match us, hl with | [_, _], _ => rfl,
    fx_mk X G a4 l4 c4 k4 fun _ _ _ _ _ _ us hl => match us, hl with | [_], _ => rfl,
    fx_mk X G a5 l5 c5 k5 fun _ _ _ _ _ _ us hl => match us, hl with | [_, _], _ => rfl,
    fx_mk X G a6 l6 c6 k6 fun _ _ _ _ _ _ us hl => match us, hl with | [_, _], _ => rfl,
    fx_mk X G a7 l7 c7 k7 fun _ _ _ _ _ _ us hl => match us, hl with | [_], _ => rfl,
    fx_mk X G a8 l8 c8 k8 fun _ _ _ _ _ _ us hl => match us, hl with | [_, _], _ => rfl,
    fx_mk X G a9 l9 c9 k9 fun _ _ _ _ _ _ us hl => match us, hl with | [_, _, _, _], _ => rfl,
    fx_mk X G a10 l10 c10 k10 fun _ _ _ _ _ _ us hl => match us, hl with | [_], _ => rfl,
    fx_mk X G a11 l11 c11 k11 fun _ _ _ _ _ _ us hl => match us, hl with | [_], _ => rfl,
    fx_mk X G a12 l12 c12 k12 fun _ _ _ _ _ _ us hl => match us, hl with | [_], _ => rfl,
    fx_mk X G a13 l13 c13 k13 fun _ _ _ _ _ _ us hl => match us, hl with | [_], _ => rfl,
    fx_mk X G a14 l14 c14 k14 fun _ _ _ _ _ _ us hl => match us, hl with | [_, _], _ => rfl,
    fx_mk X G a15 l15 c15 k15 fun _ _ _ _ _ _ us hl => match us, hl with | [_], _ => rfl,
    PySem.W.mg_none_of X G z_abs,
    PySem.W.mg_none_of X G z_all,
    PySem.W.mg_none_of X G z_bool,
    PySem.W.mg_none_of X G z_int,
    PySem.W.mg_none_of X G z_isinstance,
    PySem.W.mg_none_of X G z_len,
    PySem.W.mg_none_of X G z_list,
    PySem.W.mg_none_of X G z_min,
    PySem.W.mg_none_of X G z_range,
    PySem.W.mg_none_of X G z_str,
    PySem.W.mg_none_of X G z_tuple,
    ⟨_, PySem.W.mg_of X G g_LETTERS⟩,
    ⟨_, PySem.W.mg_of X G g_MOST_LETTERS⟩,
    ⟨_, PySem.W.mg_of X G g_MOST_TIMES⟩⟩, fun fa hfa => ?_⟩
  have e := hfa.symm.trans (PySem.W.mg_of X G a16)
  cases e
  exact ⟨_, fun_mk (st := s_law) l16 c16 k16⟩
end Lw

open PySem PySem.W PyProof.Rows in
theorem PySem.Challenge.cw_webstore_k14_what_ways_are_holds : PySem.Challenge.rw_webstore_k14_what_ways_are.Holds := by
  w_on; o_law; k_head; (case hw => w_witness2)
  k_fill
  refine Pd.law_end (l := PySem.Challenge.rw_webstore_k14_what_ways_are) (k := 30) (x := "_law_script") (st := Lw.s_law) rfl rfl ⟨rfl, by decide, by decide⟩ rfl (fun _ _ _ _ _ _ _ _ => .of_eq rfl) (fun w h Y => PySem.W.kIn_of Y) ?F
  case F =>
    intro w mg h KX G
    suffices q : Lw.Tx _ mg ∧ ∀ fa : PySem.Addr, mg "law" = some (.ref fa) → ∃ fd, L2.Fun _ "law" "law" Lw.s_law fa fd from ⟨q.2, fun base _ _ fa fd hm hf => Lw.ok_law q.1 hf⟩
    refine' Lw.all_mk KX G ?a0 ?l0 ?c0 ?k0 ?a1 ?l1 ?c1 ?k1 ?a2 ?l2 ?c2 ?k2 ?a3 ?l3 ?c3 ?k3 ?a4 ?l4 ?c4 ?k4 ?a5 ?l5 ?c5 ?k5 ?a6 ?l6 ?c6 ?k6 ?a7 ?l7 ?c7 ?k7 ?a8 ?l8 ?c8 ?k8 ?a9 ?l9 ?c9 ?k9 ?a10 ?l10 ?c10 ?k10 ?a11 ?l11 ?c11 ?k11 ?a12 ?l12 ?c12 ?k12 ?a13 ?l13 ?c13 ?k13 ?a14 ?l14 ?c14 ?k14 ?a15 ?l15 ?c15 ?k15 ?a16 ?l16 ?c16 ?k16 ?z_abs ?z_all ?z_bool ?z_int ?z_isinstance ?z_len ?z_list ?z_min ?z_range ?z_str ?z_tuple ?g_LETTERS ?g_MOST_LETTERS ?g_MOST_TIMES
    (case a0 => k_is)
    (case l0 => k_is)
    (case c0 => k_is)
    (case k0 => k_is)
    (case a1 => k_is)
    (case l1 => k_is)
    (case c1 => k_is)
    (case k1 => k_is)
    (case a2 => k_is)
    (case l2 => k_is)
    (case c2 => k_is)
    (case k2 => k_is)
    (case a3 => k_is)
    (case l3 => k_is)
    (case c3 => k_is)
    (case k3 => k_is)
    (case a4 => k_is)
    (case l4 => k_is)
    (case c4 => k_is)
    (case k4 => k_is)
    (case a5 => k_is)
    (case l5 => k_is)
    (case c5 => k_is)
    (case k5 => k_is)
    (case a6 => k_is)
    (case l6 => k_is)
    (case c6 => k_is)
    (case k6 => k_is)
    (case a7 => k_is)
    (case l7 => k_is)
    (case c7 => k_is)
    (case k7 => k_is)
    (case a8 => k_is)
    (case l8 => k_is)
    (case c8 => k_is)
    (case k8 => k_is)
    (case a9 => k_is)
    (case l9 => k_is)
    (case c9 => k_is)
    (case k9 => k_is)
    (case a10 => k_is)
    (case l10 => k_is)
    (case c10 => k_is)
    (case k10 => k_is)
    (case a11 => k_is)
    (case l11 => k_is)
    (case c11 => k_is)
    (case k11 => k_is)
    (case a12 => k_is)
    (case l12 => k_is)
    (case c12 => k_is)
    (case k12 => k_is)
    (case a13 => k_is)
    (case l13 => k_is)
    (case c13 => k_is)
    (case k13 => k_is)
    (case a14 => k_is)
    (case l14 => k_is)
    (case c14 => k_is)
    (case k14 => k_is)
    (case a15 => k_is)
    (case l15 => k_is)
    (case c15 => k_is)
    (case k15 => k_is)
    (case a16 => k_is)
    (case l16 => k_is)
    (case c16 => k_is)
    (case k16 => k_is)
    (case z_abs => k_is)
    (case z_all => k_is)
    (case z_bool => k_is)
    (case z_int => k_is)
    (case z_isinstance => k_is)
    (case z_len => k_is)
    (case z_list => k_is)
    (case z_min => k_is)
    (case z_range => k_is)
    (case z_str => k_is)
    (case z_tuple => k_is)
    (case g_LETTERS => k_is)
    (case g_MOST_LETTERS => k_is)
    (case g_MOST_TIMES => k_is)
#print axioms PySem.Challenge.cw_webstore_k14_what_ways_are_holds
