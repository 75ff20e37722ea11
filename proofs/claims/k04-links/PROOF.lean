import PyProof.Rows.All
import Wide.All
import OpenK.AllK
import Wide.FinOn
import HandS.ForMost
import HandS.Exc
import HandS.TryOnly
import HandS.ExcOwn
import HandS.WordsExc
import HandS.CallSlots
import HandS.Lambda
import HandS.AnyAll
import HandS.EndTab
import HandS.TupAny
import HandS.Conv
import HandS.Wide
import HandS.Style
import HandS.Flow
import HandS.Defaults
import PyProof.P3Eq
import PyProof.EqLayable
import HandS.EndOwn
import PySem.Challenge.RW_wirestack_k04_links_that_lose_and_bend
set_option Elab.async false
set_option linter.all false
set_option maxRecDepth 100000
set_option maxHeartbeats 4000000
/-! A functional layer over HandS: immutable values, a store of cells, expressions and statements as plain functions. -/
namespace Fw
open PySem PySem.Spec PyProof.Rows L2

/-- values: scalars, tuples, lists that nobody writes (made here; frozen ones), the cell i, anything else -/
inductive PV where
  | non
  | bl (b : Bool)
  | int (i : Int)
  | str (x : Str)
  | tup (xs : List PV)
  | lv (xs : List PV)
  | fz (xs : List PV)
  | ref (i : Nat)
  | raw (v : V)
  deriving Inhabited

/-- cells: a list, a dict by ints and texts, by tuples of such, an instance of the class number c: its fields by place -/
inductive Cel where
  | lst (xs : List PV)
  | dk (kvs : List (Key × PV))
  | dt (kvs : List (List Key × PV))
  | ins (c : Nat) (fs : List (Option PV))
abbrev Sto := List Cel
abbrev Rho := List (Option PV)

/-- results -/
inductive Rs (α : Type) where
  | ok (a : α) (st : Sto)
  | exc (c : Nat) (st : Sto)
  | bad
@[simp] def Rs.bind {α β : Type} : Rs α → (α → Sto → Rs β) → Rs β
  | .ok a st, k => k a st
  | .exc c st, _ => .exc c st
  | .bad, _ => .bad
@[simp] def Rs.lift {α : Type} : Option α → Sto → Rs α
  | some a, st => .ok a st
  | none, _ => .bad
/-- a statement's results -/
inductive Sr where
  | nx (r : Rho) (st : Sto)
  | rt (v : PV) (st : Sto)
  | bk (r : Rho) (st : Sto)
  | ct (r : Rho) (st : Sto)
  | exc (c : Nat) (r : Rho) (st : Sto)
  | bad
abbrev CE := Rho → Sto → Rs PV
abbrev CT := Rho → Sto → Rs Bool
abbrev CA := Rho → Sto → Rs (List PV)
abbrev CS := Rho → Sto → Sr
abbrev CF := List PV → Sto → Rs PV

/-- tables: of code objects made within defs; the classes with their fields' names; the exceptions' classes -/
structure Tb where
  T : List (Addr × Str)
  C : List (Addr × List Str)
  E : List Addr
/-- what is fixed: the written part, the tables, what is hidden (lists that are just being made) -/
structure Gd where
  K : PySem.W.Frag
  t : Tb
  h : List Addr
abbrev gd (X : Cx) (t : Tb) (h : List Addr) : Gd := ⟨X.K, t, h⟩

def KTup (K : PySem.W.Frag) (p : Addr) (xs : List V) : Prop :=
  ∃ (o : Obj) (its : Array Value) (n : Nat), K.lookup p = some o ∧ o.cls = .type "tuple" ∧ o.data = .seq its n ∧ its.size ≤ sizeLine ∧ Vals xs its.toList
def KLst (K : PySem.W.Frag) (p : Addr) (xs : List V) : Prop :=
  ∃ (o : Obj) (its : Array Value) (n : Nat), K.lookup p = some o ∧ o.cls = .type "list" ∧ o.dict = none ∧ o.data = .seq its n ∧ its.size ≤ sizeLine ∧ Vals xs its.toList
def TupAt (g : Gd) (m : List Addr) (H : Hp) (p : Addr) (xs : List V) : Prop := ((p ∉ m ∧ p ∉ g.h) ∧ Rd H p (.tup xs)) ∨ KTup g.K p xs
def FzAt (g : Gd) (m : List Addr) (H : Hp) (p : Addr) (xs : List V) : Prop := ((p ∉ m ∧ p ∉ g.h) ∧ Rd H p (.lst xs)) ∨ KLst g.K p xs
theorem TupAt.sq {g : Gd} {m : List Addr} {H : Hp} {p : Addr} {xs : List V} (h : TupAt g m H p xs) : SqT g.K H p xs := by
  rcases h with h | h
  · exact .inl h.2
  · exact .inr h
theorem FzAt.sq {g : Gd} {m : List Addr} {H : Hp} {p : Addr} {xs : List V} (h : FzAt g m H p xs) : SqL g.K H p xs := by
  rcases h with h | h
  · exact .inl h.2
  · exact .inr h

/-- the world has gone on: m' behind m (no cell twice), new cells stand where nothing but a table was tracked; what is tracked and no cell stays (tables may grow) -/
structure Ext (m : List Addr) (H : Hp) (m' : List Addr) (H' : Hp) : Prop where
  pre : ∃ l, m' = m ++ l ∧ ∀ a ∈ l, ∀ o, H a = some o → ∃ ps, o = .tbl ps
  nd : m'.Nodup
  keep : ∀ p o, H p = some o → p ∉ m → (∀ ps, o ≠ .tbl ps) → H' p = some o
theorem Ext.refl {m : List Addr} {H : Hp} (n : m.Nodup) : Ext m H m H := ⟨⟨[], by simp, by simp⟩, n, fun _ _ h _ _ => h⟩
theorem Ext.out {m m' : List Addr} {H H' : Hp} (e : Ext m H m' H') {p : Addr} {o : HO} (h : H p = some o) (ht : ∀ ps, o ≠ .tbl ps) (n : p ∉ m) : p ∉ m' := by
  obtain ⟨l, rfl, hl⟩ := e.pre
  intro hp
  rcases List.mem_append.mp hp with q | q
  · exact n q
  · obtain ⟨ps, z⟩ := hl p q o h
    exact ht ps z
theorem Ext.trans {m m1 m2 : List Addr} {H H1 H2 : Hp} (a : Ext m H m1 H1) (b : Ext m1 H1 m2 H2) : Ext m H m2 H2 := by
  obtain ⟨l1, rfl, h1⟩ := a.pre
  obtain ⟨l2, e2, h2⟩ := b.pre
  refine ⟨⟨l1 ++ l2, by rw [e2, List.append_assoc], fun x hx o ho => ?_⟩, b.nd, fun p o h n t => b.keep p o (a.keep p o h n t) (a.out h t n) t⟩
  rcases List.mem_append.mp hx with q | q
  · exact h1 x q o ho
  · refine Classical.byContradiction fun t => ?_
    have t' : ∀ ps, o ≠ .tbl ps := fun ps z => t ⟨ps, z⟩
    have nx : x ∉ m ++ l1 := fun z => by
      have nd := b.nd
      rw [e2] at nd
      exact (List.nodup_append.mp nd).2.2 x z x q rfl
    have e := a.keep x o ho (fun z => nx (List.mem_append_left _ z)) t'
    exact t (h2 x q o e)

mutual
inductive RV (g : Gd) (m : List Addr) (H : Hp) : PV → V → Prop where
  | non : RV g m H .non .non
  | bl (b : Bool) : RV g m H (.bl b) (.bl b)
  | int (i : Int) : RV g m H (.int i) (.int i)
  | str (x : Str) : RV g m H (.str x) (.str x)
  | tup {p : Addr} {xs : List PV} {vs : List V} : TupAt g m H p vs → RVs g m H xs vs → RV g m H (.tup xs) (.ref p)
  | lv {p : Addr} {xs : List PV} {vs : List V} : p ∉ m ∧ p ∉ g.h → H p = some (.lst vs) → RVs g m H xs vs → RV g m H (.lv xs) (.ref p)
  | fz {p : Addr} {xs : List PV} {vs : List V} : FzAt g m H p vs → RVs g m H xs vs → RV g m H (.fz xs) (.ref p)
  | ref {i : Nat} {a : Addr} : m[i]? = some a → RV g m H (.ref i) (.ref a)
  | raw (v : V) : RV g m H (.raw v) v
inductive RVs (g : Gd) (m : List Addr) (H : Hp) : List PV → List V → Prop where
  | nil : RVs g m H [] []
  | cons {x : PV} {v : V} {xs : List PV} {vs : List V} : RV g m H x v → RVs g m H xs vs → RVs g m H (x :: xs) (v :: vs)
end
theorem get_pre {α : Type} {l r : List α} {i : Nat} {a : α} (h : l[i]? = some a) : (l ++ r)[i]? = some a := by
  obtain ⟨h1, h2⟩ := List.getElem?_eq_some_iff.mp h
  rw [List.getElem?_append_left h1]
  exact h
/-- what is hidden now was hidden, or not there -/
def HExt (h h' : List Addr) (H : Hp) : Prop := ∀ a ∈ h', a ∈ h ∨ H a = none
theorem HExt.refl {h : List Addr} {H : Hp} : HExt h h H := fun _ z => .inl z
theorem HExt.no {h h' : List Addr} {H : Hp} (x : HExt h h' H) {p : Addr} {o : HO} (e : H p = some o) (n : p ∉ h) : p ∉ h' := fun z => by
  rcases x p z with q | q
  · exact n q
  · rw [e] at q; cases q
theorem TupAt.monoH {K : PySem.W.Frag} {t : Tb} {h h' m m' : List Addr} {H H' : Hp} {p : Addr} {xs : List V} (e : Ext m H m' H') (x : HExt h h' H) (q : TupAt ⟨K, t, h⟩ m H p xs) : TupAt ⟨K, t, h'⟩ m' H' p xs := by
  rcases q with ⟨n, q | ⟨o, q⟩⟩ | q
  · exact .inl ⟨⟨e.out q (fun _ z => nomatch z) n.1, x.no q n.2⟩, .inl (e.keep p _ q n.1 (fun _ z => nomatch z))⟩
  · exact .inl ⟨⟨e.out q (fun _ z => nomatch z) n.1, x.no q n.2⟩, .inr ⟨o, e.keep p _ q n.1 (fun _ z => nomatch z)⟩⟩
  · exact .inr q
theorem FzAt.monoH {K : PySem.W.Frag} {t : Tb} {h h' m m' : List Addr} {H H' : Hp} {p : Addr} {xs : List V} (e : Ext m H m' H') (x : HExt h h' H) (q : FzAt ⟨K, t, h⟩ m H p xs) : FzAt ⟨K, t, h'⟩ m' H' p xs := by
  rcases q with ⟨n, q | ⟨o, q⟩⟩ | q
  · exact .inl ⟨⟨e.out q (fun _ z => nomatch z) n.1, x.no q n.2⟩, .inl (e.keep p _ q n.1 (fun _ z => nomatch z))⟩
  · exact .inl ⟨⟨e.out q (fun _ z => nomatch z) n.1, x.no q n.2⟩, .inr ⟨o, e.keep p _ q n.1 (fun _ z => nomatch z)⟩⟩
  · exact .inr q
mutual
theorem RV.monoH {K : PySem.W.Frag} {t : Tb} {h h' m m' : List Addr} {H H' : Hp} (e : Ext m H m' H') (xh : HExt h h' H) : ∀ {x : PV} {v : V}, RV ⟨K, t, h⟩ m H x v → RV ⟨K, t, h'⟩ m' H' x v
  | _, _, .non => .non
  | _, _, .bl b => .bl b
  | _, _, .int i => .int i
  | _, _, .str x => .str x
  | _, _, .tup h r => .tup (h.monoH e xh) (RVs.monoH e xh r)
  | _, _, .lv n h r => .lv ⟨e.out h (fun _ z => nomatch z) n.1, xh.no h n.2⟩ (e.keep _ _ h n.1 (fun _ z => nomatch z)) (RVs.monoH e xh r)
  | _, _, .fz h r => .fz (h.monoH e xh) (RVs.monoH e xh r)
  | _, _, .ref h => .ref (by obtain ⟨l, rfl, _⟩ := e.pre; exact get_pre h)
  | _, _, .raw v => .raw v
theorem RVs.monoH {K : PySem.W.Frag} {t : Tb} {h h' m m' : List Addr} {H H' : Hp} (e : Ext m H m' H') (xh : HExt h h' H) : ∀ {xs : List PV} {vs : List V}, RVs ⟨K, t, h⟩ m H xs vs → RVs ⟨K, t, h'⟩ m' H' xs vs
  | _, _, .nil => .nil
  | _, _, .cons h r => .cons (RV.monoH e xh h) (RVs.monoH e xh r)
end
theorem TupAt.mono {g : Gd} {m m' : List Addr} {H H' : Hp} {p : Addr} {xs : List V} (e : Ext m H m' H') (h : TupAt g m H p xs) : TupAt g m' H' p xs := TupAt.monoH e .refl h
theorem FzAt.mono {g : Gd} {m m' : List Addr} {H H' : Hp} {p : Addr} {xs : List V} (e : Ext m H m' H') (h : FzAt g m H p xs) : FzAt g m' H' p xs := FzAt.monoH e .refl h
theorem RV.mono {g : Gd} {m m' : List Addr} {H H' : Hp} (e : Ext m H m' H') {x : PV} {v : V} (h : RV g m H x v) : RV g m' H' x v := RV.monoH e .refl h
theorem RVs.mono {g : Gd} {m m' : List Addr} {H H' : Hp} (e : Ext m H m' H') {xs : List PV} {vs : List V} (h : RVs g m H xs vs) : RVs g m' H' xs vs := RVs.monoH e .refl h

/-! ### cells, the store, the names -/
inductive RKs (g : Gd) (m : List Addr) (H : Hp) {κ : Type} : List (κ × PV) → List (κ × V) → Prop where
  | nil : RKs g m H [] []
  | cons {k : κ} {x : PV} {v : V} {xs : List (κ × PV)} {vs : List (κ × V)} : RV g m H x v → RKs g m H xs vs → RKs g m H ((k, x) :: xs) ((k, v) :: vs)
theorem RKs.monoH {K : PySem.W.Frag} {t : Tb} {h h' m m' : List Addr} {H H' : Hp} (e : Ext m H m' H') (xh : HExt h h' H) {κ : Type} : ∀ {xs : List (κ × PV)} {vs : List (κ × V)}, RKs ⟨K, t, h⟩ m H xs vs → RKs ⟨K, t, h'⟩ m' H' xs vs
  | _, _, .nil => .nil
  | _, _, .cons h r => .cons (RV.monoH e xh h) (RKs.monoH e xh r)
/-- an instance's fields -/
structure RFs (g : Gd) (m : List Addr) (H : Hp) (ns : List Str) (xs : List (Option PV)) (fs : List (Str × V)) : Prop where
  nd : (fs.map (·.1)).Nodup
  sub : ∀ k ∈ fs.map (·.1), k ∈ ns
  len : xs.length = ns.length
  at_ : ∀ (i : Nat) n, ns[i]? = some n → (∃ x v, xs[i]? = some (some x) ∧ fs.lookup n = some v ∧ RV g m H x v) ∨ (xs[i]? = some none ∧ fs.lookup n = none)
theorem RFs.monoH {K : PySem.W.Frag} {t : Tb} {h h' m m' : List Addr} {H H' : Hp} (e : Ext m H m' H') (xh : HExt h h' H) {ns : List Str} {xs : List (Option PV)} {fs : List (Str × V)} (q : RFs ⟨K, t, h⟩ m H ns xs fs) : RFs ⟨K, t, h'⟩ m' H' ns xs fs :=
  ⟨q.nd, q.sub, q.len, fun i n hn => (q.at_ i n hn).imp (fun ⟨x, v, a, b, c⟩ => ⟨x, v, a, b, c.monoH e xh⟩) id⟩
theorem RFs.mono {g : Gd} {m m' : List Addr} {H H' : Hp} (e : Ext m H m' H') {ns : List Str} {xs : List (Option PV)} {fs : List (Str × V)} (h : RFs g m H ns xs fs) : RFs g m' H' ns xs fs := h.monoH e .refl
def CelOk (g : Gd) (m : List Addr) (H : Hp) : Cel → HO → Prop
  | .lst xs, o => ∃ vs, o = .lst vs ∧ RVs g m H xs vs
  | .dk xs, o => ∃ vs, o = .dK vs ∧ RKs g m H xs vs
  | .dt xs, o => ∃ vs, o = .dT vs ∧ RKs g m H xs vs
  | .ins c fs, o => ∃ C ns dx vs, g.t.C[c]? = some (C, ns) ∧ o = .ins C dx vs ∧ RFs g m H ns fs vs
theorem CelOk.monoH {K : PySem.W.Frag} {t : Tb} {h h' m m' : List Addr} {H H' : Hp} (e : Ext m H m' H') (xh : HExt h h' H) {c : Cel} {o : HO} (q : CelOk ⟨K, t, h⟩ m H c o) : CelOk ⟨K, t, h'⟩ m' H' c o := by
  cases c with
  | lst xs => obtain ⟨vs, q, r⟩ := q; exact ⟨vs, q, r.monoH e xh⟩
  | dk xs => obtain ⟨vs, q, r⟩ := q; exact ⟨vs, q, r.monoH e xh⟩
  | dt xs => obtain ⟨vs, q, r⟩ := q; exact ⟨vs, q, r.monoH e xh⟩
  | ins c fs => obtain ⟨C, ns, dx, vs, q, q2, r⟩ := q; exact ⟨C, ns, dx, vs, q, q2, r.monoH e xh⟩
theorem CelOk.mono {g : Gd} {m m' : List Addr} {H H' : Hp} (e : Ext m H m' H') {c : Cel} {o : HO} (h : CelOk g m H c o) : CelOk g m' H' c o := CelOk.monoH e .refl h
theorem CelOk.mut {g : Gd} {m : List Addr} {H : Hp} {c : Cel} {o : HO} (h : CelOk g m H c o) : (∀ ps, o ≠ .tbl ps) := by
  intro ps z
  cases c with
  | lst xs => obtain ⟨vs, q, r⟩ := h; rw [q] at z; cases z
  | dk xs => obtain ⟨vs, q, r⟩ := h; rw [q] at z; cases z
  | dt xs => obtain ⟨vs, q, r⟩ := h; rw [q] at z; cases z
  | ins c fs => obtain ⟨C, ns, dx, vs, q, q2, r⟩ := h; rw [q2] at z; cases z
structure Rep (g : Gd) (m : List Addr) (st : Sto) (H : Hp) : Prop where
  len : m.length = st.length
  nd : m.Nodup
  at_ : ∀ (i : Nat) a c, m[i]? = some a → st[i]? = some c → ∃ o, H a = some o ∧ CelOk g m H c o
  tabs : LamX.Tabs g.t.T H
  hid : ∀ a ∈ g.h, a ∉ m ∧ ∃ vs, H a = some (.lst vs)
theorem Rep.cel {g : Gd} {m : List Addr} {st : Sto} {H : Hp} (r : Rep g m st H) {i : Nat} {c : Cel} (h : st[i]? = some c) : ∃ a o, m[i]? = some a ∧ H a = some o ∧ CelOk g m H c o := by
  have hi : i < m.length := by rw [r.len]; exact (List.getElem?_eq_some_iff.mp h).1
  obtain ⟨o, e, k⟩ := r.at_ i _ c (List.getElem?_eq_getElem hi) h
  exact ⟨_, o, List.getElem?_eq_getElem hi, e, k⟩
theorem Rep.mem {g : Gd} {m : List Addr} {st : Sto} {H : Hp} (r : Rep g m st H) {a : Addr} (h : a ∈ m) : ∃ o, H a = some o ∧ ∀ ps, o ≠ .tbl ps := by
  obtain ⟨i, hi⟩ := List.mem_iff_getElem?.mp h
  have hi' : i < st.length := by rw [← r.len]; exact (List.getElem?_eq_some_iff.mp hi).1
  obtain ⟨o, e, k⟩ := r.at_ i a _ hi (List.getElem?_eq_getElem hi')
  exact ⟨o, e, k.mut⟩
theorem Rep.out {g : Gd} {m : List Addr} {st : Sto} {H : Hp} (r : Rep g m st H) {p : Addr} (h : H p = none) : p ∉ m := fun z => by
  obtain ⟨o, e, _⟩ := r.mem z
  rw [h] at e; cases e
theorem Rep.outh {g : Gd} {m : List Addr} {st : Sto} {H : Hp} (r : Rep g m st H) {p : Addr} (h : H p = none) : p ∉ m ∧ p ∉ g.h := ⟨r.out h, fun z => by
  obtain ⟨_, vs, e⟩ := r.hid p z
  rw [h] at e; cases e⟩
theorem Rep.refl {g : Gd} {m : List Addr} {st : Sto} {H : Hp} (r : Rep g m st H) : Ext m H m H := .refl r.nd
theorem Tabs.upd {T : List (Addr × Str)} {H : Hp} {p : Addr} {o : HO} (t : LamX.Tabs T H) (n : ∀ ps, H p ≠ some (.tbl ps)) (nc : ∀ c q, H p ≠ some (LamX.CodeO c q)) : LamX.Tabs T (upd H p o) := fun q hq => by
  obtain ⟨ps, h1, h2, h3⟩ := t q hq
  refine ⟨ps, ?_, h2, fun pos cv hc => ?_⟩
  · rw [upd_ne (fun z => n ps (by rw [← z]; exact h1))]; exact h1
  · obtain ⟨c, e1, e2⟩ := h3 pos cv hc
    exact ⟨c, e1, by rw [upd_ne (fun z => nc c q.2 (by rw [← z]; exact e2))]; exact e2⟩
/-- a new thing at a free place that is no cell: a value -/
theorem Ext.new {g : Gd} {m : List Addr} {st : Sto} {H : Hp} {p : Addr} {o : HO} (r : Rep g m st H) (h : H p = none) : Ext m H m (upd H p o) :=
  ⟨⟨[], by simp, by simp⟩, r.nd, fun q u e _ _ => by rw [upd_ne (ne_of_none e h)]; exact e⟩
theorem Rep.new {g : Gd} {m : List Addr} {st : Sto} {H : Hp} {p : Addr} {o : HO} (r : Rep g m st H) (h : H p = none) : Rep g m st (upd H p o) := by
  have e := Ext.new (o := o) r h
  refine ⟨r.len, r.nd, fun i a c hi hc => ?_, Tabs.upd r.tabs (fun ps z => by rw [h] at z; cases z) (fun c q z => by rw [h] at z; cases z), fun a ha => ⟨(r.hid a ha).1, ?_⟩⟩
  rotate_left
  · obtain ⟨vs, q⟩ := (r.hid a ha).2
    exact ⟨vs, by rw [upd_ne (ne_of_none q h)]; exact q⟩
  obtain ⟨u, h1, h2⟩ := r.at_ i a c hi hc
  exact ⟨u, by rw [upd_ne (ne_of_none h1 h)]; exact h1, h2.mono e⟩
/-- a new cell -/
theorem Ext.cel {g : Gd} {m : List Addr} {st : Sto} {H : Hp} {p : Addr} {o : HO} (r : Rep g m st H) (h : H p = none) : Ext m H (m ++ [p]) (upd H p o) := by
  refine ⟨⟨[p], rfl, fun a ha u hu => ?_⟩, ?_, fun q u e _ _ => by rw [upd_ne (ne_of_none e h)]; exact e⟩
  · rw [List.mem_singleton.mp ha, h] at hu; cases hu
  · rw [List.nodup_append]
    exact ⟨r.nd, by simp, fun a ha b hb z => r.out h (by rw [← List.mem_singleton.mp hb, ← z]; exact ha)⟩
theorem Rep.addCel {g : Gd} {m : List Addr} {st : Sto} {H : Hp} {p : Addr} {o : HO} {c : Cel} (r : Rep g m st H) (h : H p = none) (k : CelOk g (m ++ [p]) (upd H p o) c o) : Rep g (m ++ [p]) (st ++ [c]) (upd H p o) := by
  have e := Ext.cel (o := o) r h
  refine ⟨by simp [r.len], e.nd, fun i a c' hi hc => ?_, Tabs.upd r.tabs (fun ps z => by rw [h] at z; cases z) (fun c q z => by rw [h] at z; cases z), fun a ha => ?_⟩
  rotate_left
  · obtain ⟨vs, q⟩ := (r.hid a ha).2
    refine ⟨fun z => ?_, vs, by rw [upd_ne (ne_of_none q h)]; exact q⟩
    rcases List.mem_append.mp z with z | z
    · exact (r.hid a ha).1 z
    · rw [List.mem_singleton.mp z, h] at q; cases q
  by_cases hlt : i < m.length
  · rw [List.getElem?_append_left hlt] at hi
    rw [List.getElem?_append_left (by rw [← r.len]; exact hlt)] at hc
    obtain ⟨u, h1, h2⟩ := r.at_ i a c' hi hc
    exact ⟨u, by rw [upd_ne (ne_of_none h1 h)]; exact h1, h2.mono e⟩
  · have hb := (List.getElem?_eq_some_iff.mp hi).1
    rw [List.length_append, List.length_singleton] at hb
    have ei : i = m.length := by omega
    subst ei
    rw [List.getElem?_append_right (Nat.le_refl _), Nat.sub_self] at hi
    rw [r.len, List.getElem?_append_right (Nat.le_refl _), Nat.sub_self] at hc
    cases hi; cases hc
    exact ⟨o, upd_same, k⟩
/-- a cell is written -/
theorem Ext.set {g : Gd} {m : List Addr} {st : Sto} {H : Hp} {i : Nat} {p : Addr} {o : HO} (r : Rep g m st H) (h : m[i]? = some p) : Ext m H m (upd H p o) :=
  ⟨⟨[], by simp, by simp⟩, r.nd, fun q u e n _ => by rw [upd_ne (fun z => n (by rw [z]; exact List.mem_of_getElem? h))]; exact e⟩
theorem codeO_ins (c : Addr) (q : Str) : ∀ (cl : Cel) (g : Gd) (m : List Addr) (H : Hp), ¬ CelOk g m H cl (LamX.CodeO c q) := fun cl g m H h => by
  unfold LamX.CodeO at h
  cases cl with
  | lst xs => obtain ⟨vs, q, r⟩ := h; cases q
  | dk xs => obtain ⟨vs, q, r⟩ := h; cases q
  | dt xs => obtain ⟨vs, q, r⟩ := h; cases q
  | ins c fs => obtain ⟨C, ns, dx, vs, q, q2, r⟩ := h; cases q2
theorem Rep.setCel {g : Gd} {m : List Addr} {st : Sto} {H : Hp} {i : Nat} {p : Addr} {o : HO} {c c0 : Cel} (r : Rep g m st H) (h : m[i]? = some p) (h0 : st[i]? = some c0) (k : CelOk g m (upd H p o) c o) : Rep g m (st.set i c) (upd H p o) := by
  have e := Ext.set (o := o) r h
  obtain ⟨o0, e0, k0⟩ := r.at_ i p c0 h h0
  refine ⟨by simp [r.len], r.nd, fun j a c' hj hc => ?_, Tabs.upd r.tabs (fun ps z => by rw [e0] at z; cases z; exact k0.mut ps rfl) (fun c q z => by rw [e0] at z; cases z; exact codeO_ins c q _ _ _ _ k0), fun a ha => ⟨(r.hid a ha).1, ?_⟩⟩
  rotate_left
  · obtain ⟨vs, q⟩ := (r.hid a ha).2
    exact ⟨vs, by rw [upd_ne (fun z => (r.hid a ha).1 (by rw [z]; exact List.mem_of_getElem? h))]; exact q⟩
  by_cases hji : j = i
  · subst hji
    rw [h] at hj; cases hj
    rw [List.getElem?_set_self (List.getElem?_eq_some_iff.mp h0).1] at hc
    cases hc
    exact ⟨o, upd_same, k⟩
  · rw [List.getElem?_set_ne (Ne.symm hji)] at hc
    obtain ⟨u, h1, h2⟩ := r.at_ j a c' hj hc
    have ne : a ≠ p := fun z => by
      subst z
      obtain ⟨a1, b1⟩ := List.getElem?_eq_some_iff.mp hj
      obtain ⟨a2, b2⟩ := List.getElem?_eq_some_iff.mp h
      exact hji ((List.getElem_inj r.nd).mp (b1.trans b2.symm))
    exact ⟨u, by rw [upd_ne ne]; exact h1, h2.mono e⟩

/-- the names' values -/
inductive REnv (g : Gd) (m : List Addr) (H : Hp) : Rho → L2.St → Prop where
  | nil : REnv g m H [] []
  | no {v : Option V} {r : Rho} {s : L2.St} : REnv g m H r s → REnv g m H (none :: r) (v :: s)
  | so {x : PV} {v : V} {r : Rho} {s : L2.St} : RV g m H x v → REnv g m H r s → REnv g m H (some x :: r) (some v :: s)
theorem REnv.monoH {K : PySem.W.Frag} {t : Tb} {h h' m m' : List Addr} {H H' : Hp} (e : Ext m H m' H') (xh : HExt h h' H) : ∀ {r : Rho} {s : L2.St}, REnv ⟨K, t, h⟩ m H r s → REnv ⟨K, t, h'⟩ m' H' r s
  | _, _, .nil => .nil
  | _, _, .no t => .no (REnv.monoH e xh t)
  | _, _, .so h t => .so (RV.monoH e xh h) (REnv.monoH e xh t)
theorem REnv.mono {g : Gd} {m m' : List Addr} {H H' : Hp} (e : Ext m H m' H') {r : Rho} {s : L2.St} (h : REnv g m H r s) : REnv g m' H' r s := REnv.monoH e .refl h
theorem REnv.get {g : Gd} {m : List Addr} {H : Hp} : ∀ {r : Rho} {s : L2.St} {i : Nat} {x : PV}, REnv g m H r s → r[i]? = some (some x) → ∃ v, s[i]? = some (some v) ∧ RV g m H x v
  | _, _, _, _, .nil, h => by simp at h
  | _, _, 0, _, .no t, h => by simp at h
  | _, _, 0, _, .so (v := v) q t, h => by simp at h; subst h; exact ⟨v, rfl, q⟩
  | _, _, i + 1, _, .no t, h => by simpa using REnv.get t (i := i) (by simpa using h)
  | _, _, i + 1, _, .so q t, h => by simpa using REnv.get t (i := i) (by simpa using h)
theorem REnv.set {g : Gd} {m : List Addr} {H : Hp} {x : PV} {v : V} (q : RV g m H x v) : ∀ {r : Rho} {s : L2.St} (i : Nat), REnv g m H r s → REnv g m H (r.set i (some x)) (s.set i (some v))
  | _, _, _, .nil => .nil
  | _, _, 0, .no t => .so q t
  | _, _, 0, .so _ t => .so q t
  | _, _, i + 1, .no t => .no (REnv.set q i t)
  | _, _, i + 1, .so h t => .so h (REnv.set q i t)
theorem REnv.forget {g : Gd} {m : List Addr} {H : Hp} {v : Option V} : ∀ {r : Rho} {s : L2.St} (i : Nat), REnv g m H r s → REnv g m H (r.set i none) (s.set i v)
  | _, _, _, .nil => .nil
  | _, _, 0, .no t => .no t
  | _, _, 0, .so _ t => .no t
  | _, _, i + 1, .no t => .no (REnv.forget i t)
  | _, _, i + 1, .so h t => .so h (REnv.forget i t)
theorem REnv.len {g : Gd} {m : List Addr} {H : Hp} : ∀ {r : Rho} {s : L2.St}, REnv g m H r s → r.length = s.length
  | _, _, .nil => rfl
  | _, _, .no t => by simp [REnv.len t]
  | _, _, .so _ t => by simp [REnv.len t]

/-! ### what a result asks -/
def EO {α β : Type} (g : Gd) (rel : List Addr → Hp → α → β → Prop) (W : WX) (σ : L2.St) (m : List Addr) (H : Hp) (Q : β → Hp → Prop) : Rs α → Prop
  | .ok x st' => ∀ m' H' v, Ext m H m' H' → Rep g m' st' H' → rel m' H' x v → Q v H'
  | .exc c st' => ∀ m' H' C d, Ext m H m' H' → Rep g m' st' H' → g.t.E[c]? = some C → W (.ref C) d σ H'
  | .bad => False
abbrev rV (g : Gd) : List Addr → Hp → PV → V → Prop := fun m H => RV g m H
abbrev rVs (g : Gd) : List Addr → Hp → List PV → List V → Prop := fun m H => RVs g m H
abbrev rB : List Addr → Hp → Bool → Bool → Prop := fun _ _ a b => a = b
def SOk (g : Gd) (W : WX) (D : Ends) (m : List Addr) (H : Hp) : Sr → Prop
  | .nx r st' => ∀ m' H' σ', Ext m H m' H' → Rep g m' st' H' → REnv g m' H' r σ' → D.nx σ' H'
  | .rt x st' => ∀ m' H' v, Ext m H m' H' → Rep g m' st' H' → RV g m' H' x v → D.rt v H'
  | .bk r st' => ∀ m' H' σ', Ext m H m' H' → Rep g m' st' H' → REnv g m' H' r σ' → D.bk σ' H'
  | .ct r st' => ∀ m' H' σ', Ext m H m' H' → Rep g m' st' H' → REnv g m' H' r σ' → D.ct σ' H'
  | .exc c r st' => ∀ m' H' σ' C d, Ext m H m' H' → Rep g m' st' H' → REnv g m' H' r σ' → g.t.E[c]? = some C → W (.ref C) d σ' H'
  | .bad => False
def tE (K : PySem.W.Frag) (t : Tb) (W : WX) (c : CE) : TE := fun σ H Q => ∃ h m st r, Rep ⟨K, t, h⟩ m st H ∧ REnv ⟨K, t, h⟩ m H r σ ∧ EO ⟨K, t, h⟩ (rV ⟨K, t, h⟩) W σ m H Q (c r st)
def tT (K : PySem.W.Frag) (t : Tb) (W : WX) (c : CT) : TT := fun σ H Q => ∃ h m st r, Rep ⟨K, t, h⟩ m st H ∧ REnv ⟨K, t, h⟩ m H r σ ∧ EO ⟨K, t, h⟩ rB W σ m H Q (c r st)
def tA (K : PySem.W.Frag) (t : Tb) (W : WX) (c : CA) : TA := fun σ H Q => ∃ h m st r, Rep ⟨K, t, h⟩ m st H ∧ REnv ⟨K, t, h⟩ m H r σ ∧ EO ⟨K, t, h⟩ (rVs ⟨K, t, h⟩) W σ m H Q (c r st)
def tS (K : PySem.W.Frag) (t : Tb) (W : WX) (c : CS) : TS := fun D σ H => ∃ h m st r, Rep ⟨K, t, h⟩ m st H ∧ REnv ⟨K, t, h⟩ m H r σ ∧ SOk ⟨K, t, h⟩ W D m H (c r st)
theorem EO.ext {α β : Type} {g : Gd} {rel : List Addr → Hp → α → β → Prop} {W : WX} {σ : L2.St} {m m1 : List Addr} {H H1 : Hp} {Q : β → Hp → Prop} (e : Ext m H m1 H1) : ∀ {o : Rs α}, EO g rel W σ m H Q o → EO g rel W σ m1 H1 Q o
  | .ok _ _, h => fun m' H' v e' r q => h m' H' v (e.trans e') r q
  | .exc _ _, h => fun m' H' C d e' r q => h m' H' C d (e.trans e') r q
  | .bad, h => h
theorem SOk.ext {g : Gd} {W : WX} {D : Ends} {m m1 : List Addr} {H H1 : Hp} (e : Ext m H m1 H1) : ∀ {o : Sr}, SOk g W D m H o → SOk g W D m1 H1 o
  | .nx _ _, h => fun m' H' v e' r q => h m' H' v (e.trans e') r q
  | .rt _ _, h => fun m' H' v e' r q => h m' H' v (e.trans e') r q
  | .bk _ _, h => fun m' H' v e' r q => h m' H' v (e.trans e') r q
  | .ct _ _, h => fun m' H' v e' r q => h m' H' v (e.trans e') r q
  | .exc _ _ _, h => fun m' H' v C d e' r q => h m' H' v C d (e.trans e') r q
  | .bad, h => h
/-- a result handed on to a further one -/
theorem EO.bind {α β γ δ : Type} {g : Gd} {rel : List Addr → Hp → α → β → Prop} {rel2 : List Addr → Hp → γ → δ → Prop} {W : WX} {σ : L2.St} {m : List Addr} {H : Hp} {Q : δ → Hp → Prop} {R : β → Hp → Prop} {k : α → Sto → Rs γ} : ∀ {o : Rs α},
    EO g rel2 W σ m H Q (o.bind k) → (∀ x st m' H' v, Ext m H m' H' → Rep g m' st H' → rel m' H' x v → EO g rel2 W σ m' H' Q (k x st) → R v H') → EO g rel W σ m H R o
  | .ok x st, h, f => fun m' H' v e r q => f x st m' H' v e r q (h.ext e)
  | .exc _ _, h, _ => h
  | .bad, h, _ => h
structure SE (t : Tb) (X : Cx) (W : WX) (e : Expr) (c : CE) : Prop where
  pe : PE X e (tE X.K t W c)
structure ST (t : Tb) (X : Cx) (W : WX) (e : Expr) (c : CT) : Prop where
  pt : PT X e (tT X.K t W c)
structure SA (t : Tb) (X : Cx) (W : WX) (es : List Expr) (c : CA) : Prop where
  pa : PA X es (tA X.K t W c)
structure SS (t : Tb) (X : Cx) (W : WX) (s : Stmt) (c : CS) : Prop where
  ps : PS X s (tS X.K t W c)
structure SB (t : Tb) (X : Cx) (W : WX) (s : List Stmt) (c : CS) : Prop where
  ps : PSs X s (tS X.K t W c)
theorem _root_.L2.PE.imp {X : Cx} {e : Expr} {t t' : TE} (h : PE X e t) (i : ∀ σ H Q, t' σ H Q → t σ H Q) : PE X e t' := ⟨fun pins s σ H Q I q => h.run pins s σ H Q I (i σ H Q q)⟩
theorem _root_.L2.PT.imp {X : Cx} {e : Expr} {t t' : TT} (h : PT X e t) (i : ∀ σ H Q, t' σ H Q → t σ H Q) : PT X e t' := ⟨fun pins s σ H Q I q => h.run pins s σ H Q I (i σ H Q q)⟩
theorem _root_.L2.PA.imp {X : Cx} {e : List Expr} {t t' : TA} (h : PA X e t) (i : ∀ σ H Q, t' σ H Q → t σ H Q) : PA X e t' := ⟨fun pos pins s σ H Q I q => h.run pos pins s σ H Q I (i σ H Q q)⟩
theorem _root_.L2.PS.imp {X : Cx} {e : Stmt} {t t' : TS} (h : PS X e t) (i : ∀ D σ H, t' D σ H → t D σ H) : PS X e t' := ⟨fun pins s σ H Q I q => h.run pins s σ H Q I (i Q σ H q)⟩
theorem _root_.L2.PSs.imp {X : Cx} {e : List Stmt} {t t' : TS} (h : PSs X e t) (i : ∀ D σ H, t' D σ H → t D σ H) : PSs X e t' := ⟨fun pins s σ H Q I q => h.run pins s σ H Q I (i Q σ H q)⟩
end Fw
set_option Elab.async false
set_option linter.all false
set_option maxRecDepth 100000
set_option maxHeartbeats 4000000
namespace Fw
open PySem PySem.Spec PyProof.Rows L2
/-! ### expressions -/
def cVar (i : Nat) : CE := fun r st => match r[i]? with
  | some (some x) => .ok x st
  | _ => .bad
def cK (x : PV) : CE := fun _ st => .ok x st
def cBin (f : Sto → PV → PV → Option PV) (a b : CE) : CE := fun r st => (a r st).bind fun x st1 => (b r st1).bind fun y st2 => .lift (f st2 x y) st2
def cUn (f : Sto → PV → Option PV) (a : CE) : CE := fun r st => (a r st).bind fun x st1 => .lift (f st1 x) st1
def cFn (f : Sto → List PV → Option PV) (a : CA) : CE := fun r st => (a r st).bind fun x st1 => .lift (f st1 x) st1
def cNil : CA := fun _ st => .ok [] st
def cCons (a : CE) (b : CA) : CA := fun r st => (a r st).bind fun x st1 => (b r st1).bind fun xs st2 => .ok (x :: xs) st2
def cTest (a : CE) : CT := fun r st => (a r st).bind fun x st1 => match x with
  | .bl b => .ok b st1
  | _ => .bad
def cNot (a : CT) : CT := fun r st => (a r st).bind fun b st1 => .ok (!b) st1
def cAnd (a b : CT) : CT := fun r st => (a r st).bind fun x st1 => if x = true then b r st1 else .ok false st1
def cOr (a b : CT) : CT := fun r st => (a r st).bind fun x st1 => if x = true then .ok true st1 else b r st1
def cAndV (a b : CE) : CE := fun r st => (a r st).bind fun x st1 => match x with
  | .bl true => b r st1
  | .bl false => .ok (.bl false) st1
  | _ => .bad
def cOrV (a b : CE) : CE := fun r st => (a r st).bind fun x st1 => match x with
  | .bl true => .ok (.bl true) st1
  | .bl false => b r st1
  | _ => .bad
def cNotV (a : CE) : CE := fun r st => (a r st).bind fun x st1 => match x with
  | .bl b => .ok (.bl (!b)) st1
  | _ => .bad
def cIf (t : CT) (a b : CE) : CE := fun r st => (t r st).bind fun x st1 => if x = true then a r st1 else b r st1
/-- a op b op' c -/
def cChain (f f' : Sto → PV → PV → Option PV) (a b c : CE) : CE := fun r st => (a r st).bind fun x st1 => (b r st1).bind fun y st2 => match f st2 x y with
  | some (.bl true) => (c r st2).bind fun z st3 => .lift (f' st3 y z) st3
  | some (.bl false) => .ok (.bl false) st2
  | _ => .bad
def cTup (a : CA) : CE := fun r st => (a r st).bind fun xs st1 => if xs.length ≤ sizeLine then .ok (.tup xs) st1 else .bad
def cLst (a : CA) : CE := fun r st => (a r st).bind fun xs st1 => if xs.length ≤ sizeLine then .ok (.lv xs) st1 else .bad
/-- a new list that is a cell -/
def cLstR (a : CA) : CE := fun r st => (a r st).bind fun xs st1 => if xs.length ≤ sizeLine then .ok (.ref st1.length) (st1 ++ [.lst xs]) else .bad

/-- what a rule on two values (a call) asks, met by a function -/
def OpG (K : PySem.W.Frag) (t : Tb) (r : R2) (f : Sto → PV → PV → Option PV) : Prop := ∀ h m st H x y u v z Q, Rep ⟨K, t, h⟩ m st H → RV ⟨K, t, h⟩ m H x u → RV ⟨K, t, h⟩ m H y v → f st x y = some z →
  (∀ m' H' w, Ext m H m' H' → Rep ⟨K, t, h⟩ m' st H' → RV ⟨K, t, h⟩ m' H' z w → Q w H') → r u v H Q
def UnG (K : PySem.W.Frag) (t : Tb) (r : V → Hp → VK → Prop) (f : Sto → PV → Option PV) : Prop := ∀ h m st H x u z Q, Rep ⟨K, t, h⟩ m st H → RV ⟨K, t, h⟩ m H x u → f st x = some z →
  (∀ m' H' w, Ext m H m' H' → Rep ⟨K, t, h⟩ m' st H' → RV ⟨K, t, h⟩ m' H' z w → Q w H') → r u H Q
def FnG (K : PySem.W.Frag) (t : Tb) (r : List V → Hp → VK → Prop) (f : Sto → List PV → Option PV) : Prop := ∀ h m st H xs us z Q, Rep ⟨K, t, h⟩ m st H → RVs ⟨K, t, h⟩ m H xs us → f st xs = some z →
  (∀ m' H' w, Ext m H m' H' → Rep ⟨K, t, h⟩ m' st H' → RV ⟨K, t, h⟩ m' H' z w → Q w H') → r us H Q
theorem OpG.or {K : PySem.W.Frag} {t : Tb} {r r' : R2} {f f' : Sto → PV → PV → Option PV} (p : OpG K t r f) (p' : OpG K t r' f') : OpG K t (fun x y H Q => r x y H Q ∨ r' x y H Q) (fun st x y => (f st x y).or (f' st x y)) := by
  intro h m st H x y u v z Q R rx ry e q
  dsimp only at e
  cases h1 : f st x y with
  | some w =>
    rw [h1] at e
    cases e
    exact .inl (p h m st H x y u v z Q R rx ry h1 q)
  | none =>
    rw [h1] at e
    exact .inr (p' h m st H x y u v z Q R rx ry e q)
theorem FnG.or {K : PySem.W.Frag} {t : Tb} {r r' : List V → Hp → VK → Prop} {f f' : Sto → List PV → Option PV} (p : FnG K t r f) (p' : FnG K t r' f') : FnG K t (fun x H Q => r x H Q ∨ r' x H Q) (fun st x => (f st x).or (f' st x)) := by
  intro h m st H x u z Q R rx e q
  dsimp only at e
  cases h1 : f st x with
  | some w =>
    rw [h1] at e
    cases e
    exact .inl (p h m st H x u z Q R rx h1 q)
  | none =>
    rw [h1] at e
    exact .inr (p' h m st H x u z Q R rx e q)

section
variable {t : Tb} {X : Cx} {W : WX} {pos : Pos}
theorem se_var (i : Nat) {x : Str} (hN : X.N[i]? = some x := by rfl) (hv : Vis X.env.scope x := by first | exact Or.inl rfl | exact Or.inr (Or.inl rfl) | exact Or.inr (Or.inr rfl))
    (hd : (x == ("__debug__" : Str)) = false := by decide) (hcd : (x == ("__classdict__" : Str)) = false := by decide) : SE t X W (.Name x pos) (cVar i) := by
  refine ⟨(pe_var hN hv hd hcd).imp fun σ H Q ⟨h, m, st, r, hr, he, hq⟩ => ?_⟩
  unfold cVar at hq
  split at hq
  · rename_i x hx
    obtain ⟨v, e, rv⟩ := he.get hx
    exact ⟨v, e, hq m H v hr.refl hr rv⟩
  · exact hq.elim
theorem se_int {i j} : SE t X W (.Constant (.int i) j pos) (cK (.int i)) := ⟨pe_int.imp fun σ H Q ⟨h, m, st, r, hr, he, hq⟩ => hq m H _ hr.refl hr (.int i)⟩
theorem se_bl {i j} : SE t X W (.Constant (.bool i) j pos) (cK (.bl i)) := ⟨pe_bl.imp fun σ H Q ⟨h, m, st, r, hr, he, hq⟩ => hq m H _ hr.refl hr (.bl i)⟩
theorem se_non {j} : SE t X W (.Constant .none j pos) (cK .non) := ⟨pe_non.imp fun σ H Q ⟨h, m, st, r, hr, he, hq⟩ => hq m H _ hr.refl hr .non⟩
theorem se_str {x j} : SE t X W (.Constant (.str x) j pos) (cK (.str x)) := ⟨pe_str.imp fun σ H Q ⟨h, m, st, r, hr, he, hq⟩ => hq m H _ hr.refl hr (.str x)⟩
/-- a module's constant -/
theorem se_glob {x : Str} {v : V} {z : PV} {u : Value} (hg : Gl X x) (hm : X.mg x = some u) (r : RelV v u) (hz : ∀ h m H, RV (gd X t h) m H z v) (hd : (x == ("__debug__" : Str)) = false := by decide) : SE t X W (.Name x pos) (cK z) :=
  ⟨(pe_glob hg hm r hd).imp fun σ H Q ⟨h, m, st, r, hr, he, hq⟩ => hq m H _ hr.refl hr (hz h m H)⟩
variable {a b c : Expr} {ca cb cc : CE}
/-- two values, then a rule on them -/
theorem two {R : V → V → Hp → VK → Prop} {k : PV → PV → Sto → Rs PV} {σ : L2.St} {H : Hp} {Q : VK} {r : Rho} {st : Sto} {h : List Addr} {m : List Addr} (hr : Rep (gd X t h) m st H) (he : REnv (gd X t h) m H r σ)
    (hq : EO (gd X t h) (rV (gd X t h)) W σ m H Q ((ca r st).bind fun x st1 => (cb r st1).bind fun y st2 => k x y st2))
    (hk : ∀ m' st' H' x y u v, Rep (gd X t h) m' st' H' → RV (gd X t h) m' H' x u → RV (gd X t h) m' H' y v → REnv (gd X t h) m' H' r σ → EO (gd X t h) (rV (gd X t h)) W σ m' H' Q (k x y st') → R u v H' Q) :
    EO (gd X t h) (rV (gd X t h)) W σ m H (fun u H1 => tE X.K t W cb σ H1 fun v H2 => R u v H2 Q) (ca r st) :=
  EO.bind hq fun x st1 m1 H1 u e1 r1 rx h1 => ⟨h, m1, st1, r, r1, he.mono e1, EO.bind h1 fun y st2 m2 H2 v e2 r2 ry h2 => hk m2 st2 H2 x y u v r2 (rx.mono e2) ry ((he.mono e1).mono e2) h2⟩
theorem fin_op {α β : Type} {g : Gd} {rel : List Addr → Hp → α → β → Prop} {σ : L2.St} {m : List Addr} {H : Hp} {Q : β → Hp → Prop} {o : Option α} {st : Sto} (h : EO g rel W σ m H Q (Rs.lift o st)) :
    ∃ z, o = some z ∧ ∀ m' H' w, Ext m H m' H' → Rep g m' st H' → rel m' H' z w → Q w H' := by
  cases o with
  | none => exact h.elim
  | some z => exact ⟨z, rfl, h⟩
theorem se_op {op : Operator} {r : R2} {f : Sto → PV → PV → Option PV} (ho : OpR X (binaryOp op) r) (hf : OpG X.K t r f) (ha : SE t X W a ca) (hb : SE t X W b cb) : SE t X W (.BinOp a op b pos) (cBin f ca cb) :=
  ⟨(pe_op ho ha.pe hb.pe).imp fun σ H Q ⟨h, m, st, ρ, hr, he, hq⟩ => ⟨h, m, st, ρ, hr, he, two hr he hq fun m' st' H' x y u v R' rx ry _ hh => by
    obtain ⟨z, ez, hz⟩ := fin_op hh
    exact hf h m' st' H' x y u v z Q R' rx ry ez hz⟩⟩
theorem se_cmp {op : CmpOp} {r : R2} {f : Sto → PV → PV → Option PV} (ho : OpR X (compareOp op) r) (hf : OpG X.K t r f) (ha : SE t X W a ca) (hb : SE t X W b cb) (hm : behindInMarks op b = false) : SE t X W (.Compare a [op] [b] pos) (cBin f ca cb) :=
  ⟨(pe_cmpR ho ha.pe hb.pe hm).imp fun σ H Q ⟨h, m, st, ρ, hr, he, hq⟩ => ⟨h, m, st, ρ, hr, he, two hr he hq fun m' st' H' x y u v R' rx ry _ hh => by
    obtain ⟨z, ez, hz⟩ := fin_op hh
    exact hf h m' st' H' x y u v z Q R' rx ry ez hz⟩⟩
theorem se_ix {r : R2} {f : Sto → PV → PV → Option PV} (ho : IxR X r) (hf : OpG X.K t r f) (ha : SE t X W a ca) (hb : SE t X W b cb) (hs : PlainIx b) : SE t X W (.Subscript a b pos) (cBin f ca cb) :=
  ⟨(pe_ix ho ha.pe hb.pe hs).imp fun σ H Q ⟨h, m, st, ρ, hr, he, hq⟩ => ⟨h, m, st, ρ, hr, he, two hr he hq fun m' st' H' x y u v R' rx ry _ hh => by
    obtain ⟨z, ez, hz⟩ := fin_op hh
    exact hf h m' st' H' x y u v z Q R' rx ry ez hz⟩⟩
theorem se_un {op : UnaryOp} {r : V → Hp → VK → Prop} {f : Sto → PV → Option PV} (ho : UnR X (unaryOp op) r) (hf : UnG X.K t r f) (ha : SE t X W a ca) : SE t X W (.UnaryOp op a pos) (cUn f ca) :=
  ⟨(pe_un ho ha.pe).imp fun σ H Q ⟨h, m, st, ρ, hr, he, hq⟩ => ⟨h, m, st, ρ, hr, he, EO.bind hq fun x st1 m1 H1 u e1 r1 rx hh => by
    obtain ⟨z, ez, hz⟩ := fin_op hh
    exact hf h m1 st1 H1 x u z Q r1 rx ez hz⟩⟩
theorem se_chain {op op' : CmpOp} {r r' : R2} {f f' : Sto → PV → PV → Option PV} (ho : OpR X (compareOp op) r) (ho' : OpR X (compareOp op') r') (hf : OpG X.K t r f) (hf' : OpG X.K t r' f') (ha : SE t X W a ca) (hb : SE t X W b cb) (hc : SE t X W c cc)
    (hm : lastMarks [op, op'] [b, c] = false := by with_unfolding_all rfl) : SE t X W (.Compare a [op, op'] [b, c] pos) (cChain f f' ca cb cc) :=
  ⟨(pe_chain ho ho' ha.pe hb.pe hc.pe hm).imp fun σ H Q ⟨h, m, st, ρ, hr, he, hq⟩ => ⟨h, m, st, ρ, hr, he, EO.bind hq fun x st1 m1 H1 u e1 r1 rx h1 => ⟨h, m1, st1, ρ, r1, he.mono e1, EO.bind h1 fun y st2 m2 H2 v e2 r2 ry h2 => by
    split at h2
    · rename_i ez
      refine hf h m2 st2 H2 x y u v _ _ r2 (rx.mono e2) ry ez fun m3 H3 w e3 r3 rw3 => ?_
      cases rw3
      refine ⟨true, rfl, iteT ⟨h, m3, st2, ρ, r3, ((he.mono e1).mono e2).mono e3, EO.bind (h2.ext e3) fun z st4 m4 H4 w e4 r4 rz h4 => ?_⟩⟩
      obtain ⟨q, eq, hz⟩ := fin_op h4
      exact hf' h m4 st4 H4 y z v w q Q r4 ((ry.mono e3).mono e4) rz eq hz
    · rename_i ez
      refine hf h m2 st2 H2 x y u v _ _ r2 (rx.mono e2) ry ez fun m3 H3 w e3 r3 rw3 => ?_
      cases rw3
      exact ⟨false, rfl, iteF (h2 m3 H3 _ e3 r3 (.bl false))⟩
    · exact h2.elim⟩⟩⟩
/-! ### tests -/
theorem st_of {e : Expr} {ce : CE} (h : SE t X W e ce) (he : ∀ whole, isTrue e X.env whole = (do let v ← whole; standAt e.pos; holding [v] (truthy v)) := by intro _; rfl) : ST t X W e (cTest ce) :=
  ⟨(pt_val h.pe he).imp fun σ H Q ⟨h, m, st, ρ, hr, he, hq⟩ => ⟨h, m, st, ρ, hr, he, EO.bind hq fun x st1 m1 H1 u e1 r1 rx h1 => by
    split at h1
    · cases rx
      exact ⟨_, rfl, h1 m1 H1 _ r1.refl r1 rfl⟩
    · exact h1.elim⟩⟩
theorem st_cmp {op : CmpOp} {r : R2} {f : Sto → PV → PV → Option PV} (ho : OpR X (compareOp op) r) (hf : OpG X.K t r f) (ha : SE t X W a ca) (hb : SE t X W b cb) (hm : behindInMarks op b = false) : ST t X W (.Compare a [op] [b] pos) (cTest (cBin f ca cb)) :=
  ⟨(pt_cmpR ho ha.pe hb.pe hm).imp fun σ H Q ⟨h, m, st, ρ, hr, he, hq⟩ => ⟨h, m, st, ρ, hr, he, by
    have hq' : EO (gd X t h) rB W σ m H Q ((ca ρ st).bind fun x st1 => (cb ρ st1).bind fun y st2 => ((Rs.lift (f st2 x y) st2).bind fun x st1 => match x with | .bl b => Rs.ok b st1 | _ => Rs.bad)) := by
      unfold cTest cBin at hq
      cases h1 : ca ρ st with
      | ok x st1 =>
        rw [h1] at hq
        simp only [Rs.bind] at hq ⊢
        cases h2 : cb ρ st1 with
        | ok y st2 => rw [h2] at hq; exact hq
        | exc c st2 => rw [h2] at hq; exact hq
        | bad => rw [h2] at hq; exact hq
      | exc c st1 => rw [h1] at hq; exact hq
      | bad => rw [h1] at hq; exact hq
    refine EO.bind hq' fun x st1 m1 H1 u e1 r1 rx h1 => ⟨h, m1, st1, ρ, r1, he.mono e1, EO.bind h1 fun y st2 m2 H2 v e2 r2 ry h2 => ?_⟩
    cases ez : f st2 x y with
    | none => rw [ez] at h2; exact h2.elim
    | some z =>
      rw [ez] at h2
      refine hf h m2 st2 H2 x y u v z _ r2 (rx.mono e2) ry ez fun m3 H3 w e3 r3 rw3 => ?_
      cases z with
      | bl b => cases rw3; exact ⟨b, rfl, h2 m3 H3 _ e3 r3 rfl⟩
      | _ => exact h2.elim⟩⟩
theorem sw_chain {op op' : CmpOp} {r r' : R2} {f f' : Sto → PV → PV → Option PV} (ho : OpR X (compareOp op) r) (ho' : OpR X (compareOp op') r') (hf : OpG X.K t r f) (hf' : OpG X.K t r' f') (ha : SE t X W a ca) (hb : SE t X W b cb) (hc : SE t X W c cc)
    (hm : lastMarks [op, op'] [b, c] = false := by with_unfolding_all rfl) : ST t X W (.Compare a [op, op'] [b, c] pos) (cTest (cChain f f' ca cb cc)) :=
  ⟨(pt_chain ho ho' ha.pe hb.pe hc.pe hm).imp fun σ H Q ⟨h, m, st, ρ, hr, he, hq⟩ => by
    refine ⟨h, m, st, ρ, hr, he, ?_⟩
    have hq' : EO (gd X t h) (rV (gd X t h)) W σ m H (fun v H' => ∃ k, v = .bl k ∧ Q k H') (cChain f f' ca cb cc ρ st) := EO.bind hq fun x st1 m1 H1 u e1 r1 rx h1 => by
      split at h1
      · cases rx
        exact ⟨_, rfl, h1 m1 H1 _ r1.refl r1 rfl⟩
      · exact h1.elim
    refine EO.bind hq' fun x st1 m1 H1 u e1 r1 rx h1 => ⟨h, m1, st1, ρ, r1, he.mono e1, EO.bind h1 fun y st2 m2 H2 v e2 r2 ry h2 => ?_⟩
    split at h2
    · rename_i ez
      refine hf h m2 st2 H2 x y u v _ _ r2 (rx.mono e2) ry ez fun m3 H3 w e3 r3 rw3 => ?_
      cases rw3
      refine ⟨true, rfl, iteT ⟨h, m3, st2, ρ, r3, ((he.mono e1).mono e2).mono e3, EO.bind (h2.ext e3) fun z st4 m4 H4 w e4 r4 rz h4 => ?_⟩⟩
      obtain ⟨q, eq, hz⟩ := fin_op h4
      exact hf' h m4 st4 H4 y z v w q _ r4 ((ry.mono e3).mono e4) rz eq hz
    · rename_i ez
      refine hf h m2 st2 H2 x y u v _ _ r2 (rx.mono e2) ry ez fun m3 H3 w e3 r3 rw3 => ?_
      cases rw3
      exact ⟨false, rfl, iteF (h2 m3 H3 _ e3 r3 (.bl false))⟩
    · exact h2.elim⟩
structure SW (t : Tb) (X : Cx) (W : WX) (e : Expr) (c : CT) : Prop where
  pw : PW X e (tT X.K t W c)
theorem _root_.L2.PW.imp {X : Cx} {e : Expr} {t t' : TT} (h : PW X e t) (i : ∀ σ H Q, t' σ H Q → t σ H Q) : PW X e t' := ⟨fun wh pins s σ H Q I q => h.run wh pins s σ H Q I (i σ H Q q)⟩
theorem SW.st {e : Expr} {c : CT} (h : SW t X W e c) : ST t X W e c := ⟨h.pw.pt⟩
variable {ta tb : CT} {rest : List Expr}
theorem sw_and1 (ha : ST t X W a ta) : SW t X W (.BoolOp .And [a] pos) ta := ⟨pw_and1 ha.pt⟩
theorem sw_or1 (ha : ST t X W a ta) : SW t X W (.BoolOp .Or [a] pos) ta := ⟨pw_or1 ha.pt⟩
theorem sw_and (ha : ST t X W a ta) (hb : SW t X W (.BoolOp .And (b :: rest) pos) tb) : SW t X W (.BoolOp .And (a :: b :: rest) pos) (cAnd ta tb) :=
  ⟨(pw_and ha.pt hb.pw).imp fun σ H Q ⟨h, m, st, ρ, hr, he, hq⟩ => ⟨h, m, st, ρ, hr, he, EO.bind hq fun x st1 m1 H1 u e1 r1 rx h1 => by
    cases rx
    cases x with
    | true => exact iteT ⟨h, m1, st1, ρ, r1, he.mono e1, h1⟩
    | false => exact iteF (h1 m1 H1 _ r1.refl r1 rfl)⟩⟩
theorem sw_or (ha : ST t X W a ta) (hb : SW t X W (.BoolOp .Or (b :: rest) pos) tb) : SW t X W (.BoolOp .Or (a :: b :: rest) pos) (cOr ta tb) :=
  ⟨(pw_or ha.pt hb.pw).imp fun σ H Q ⟨h, m, st, ρ, hr, he, hq⟩ => ⟨h, m, st, ρ, hr, he, EO.bind hq fun x st1 m1 H1 u e1 r1 rx h1 => by
    cases rx
    cases x with
    | true => exact iteT (h1 m1 H1 _ r1.refl r1 rfl)
    | false => exact iteF ⟨h, m1, st1, ρ, r1, he.mono e1, h1⟩⟩⟩
theorem st_not (ha : ST t X W a ta) : ST t X W (.UnaryOp .Not a pos) (cNot ta) :=
  ⟨(pt_not ha.pt).imp fun σ H Q ⟨h, m, st, ρ, hr, he, hq⟩ => ⟨h, m, st, ρ, hr, he, EO.bind hq fun x st1 m1 H1 u e1 r1 rx h1 => by
    cases rx
    exact h1 m1 H1 _ r1.refl r1 rfl⟩⟩
theorem se_if {cond : Expr} {cd : CT} (hc : ST t X W cond cd) (ha : SE t X W a ca) (hb : SE t X W b cb) : SE t X W (.IfExp cond a b pos) (cIf cd ca cb) :=
  ⟨(pe_ifExp hc.pt ha.pe hb.pe).imp fun σ H Q ⟨h, m, st, ρ, hr, he, hq⟩ => ⟨h, m, st, ρ, hr, he, EO.bind hq fun x st1 m1 H1 u e1 r1 rx h1 => by
    cases rx
    cases x with
    | true => exact iteT ⟨h, m1, st1, ρ, r1, he.mono e1, h1⟩
    | false => exact iteF ⟨h, m1, st1, ρ, r1, he.mono e1, h1⟩⟩⟩
/-- bools as values -/
theorem se_one {op : BoolOp} (ha : SE t X W a ca) : SE t X W (.BoolOp op [a] pos) ca := ⟨pe_one ha.pe⟩
theorem se_and (ha : SE t X W a ca) (hb : SE t X W (.BoolOp .And (b :: rest) pos) cb) : SE t X W (.BoolOp .And (a :: b :: rest) pos) (cAndV ca cb) :=
  ⟨(pe_and ha.pe hb.pe).imp fun σ H Q ⟨h, m, st, ρ, hr, he, hq⟩ => ⟨h, m, st, ρ, hr, he, EO.bind hq fun x st1 m1 H1 u e1 r1 rx h1 => by
    split at h1
    · cases rx; exact ⟨true, rfl, iteT ⟨h, m1, st1, ρ, r1, he.mono e1, h1⟩⟩
    · cases rx; exact ⟨false, rfl, iteF (h1 m1 H1 _ r1.refl r1 (.bl false))⟩
    · exact h1.elim⟩⟩
theorem se_or (ha : SE t X W a ca) (hb : SE t X W (.BoolOp .Or (b :: rest) pos) cb) : SE t X W (.BoolOp .Or (a :: b :: rest) pos) (cOrV ca cb) :=
  ⟨(pe_or ha.pe hb.pe).imp fun σ H Q ⟨h, m, st, ρ, hr, he, hq⟩ => ⟨h, m, st, ρ, hr, he, EO.bind hq fun x st1 m1 H1 u e1 r1 rx h1 => by
    split at h1
    · cases rx; exact ⟨true, rfl, iteT (h1 m1 H1 _ r1.refl r1 (.bl true))⟩
    · cases rx; exact ⟨false, rfl, iteF ⟨h, m1, st1, ρ, r1, he.mono e1, h1⟩⟩
    · exact h1.elim⟩⟩
theorem se_not (ha : SE t X W a ca) : SE t X W (.UnaryOp .Not a pos) (cNotV ca) :=
  ⟨(pe_not ha.pe).imp fun σ H Q ⟨h, m, st, ρ, hr, he, hq⟩ => ⟨h, m, st, ρ, hr, he, EO.bind hq fun x st1 m1 H1 u e1 r1 rx h1 => by
    split at h1
    · cases rx; exact ⟨_, rfl, h1 m1 H1 _ r1.refl r1 (.bl _)⟩
    · exact h1.elim⟩⟩
/-! ### arguments, displays -/
variable {e : Expr} {es : List Expr} {ce : CE} {cs : CA}
theorem sa_nil : SA t X W [] cNil := ⟨pa_nil.imp fun σ H Q ⟨h, m, st, ρ, hr, he, hq⟩ => hq m H _ hr.refl hr .nil⟩
theorem sa_cons (ha : SE t X W e ce) (hb : SA t X W es cs) (hs : starEach (e :: es) X.env = (false, eval e X.env) :: starEach es X.env := by rfl) : SA t X W (e :: es) (cCons ce cs) :=
  ⟨(pa_cons ha.pe hb.pa hs).imp fun σ H Q ⟨h, m, st, ρ, hr, he, hq⟩ => ⟨h, m, st, ρ, hr, he, EO.bind hq fun x st1 m1 H1 u e1 r1 rx h1 => ⟨h, m1, st1, ρ, r1, he.mono e1, EO.bind h1 fun xs st2 m2 H2 us e2 r2 rxs h2 =>
    h2 m2 H2 _ r2.refl r2 (.cons (rx.mono e2) rxs)⟩⟩⟩
theorem RVs.length {g : Gd} {m : List Addr} {H : Hp} : ∀ {xs : List PV} {vs : List V}, RVs g m H xs vs → xs.length = vs.length
  | _, _, .nil => rfl
  | _, _, .cons _ r => by simp [RVs.length r]
theorem se_tup {x1} (h : SA t X W es cs) : SE t X W (.Tuple es x1 pos) (cTup cs) :=
  ⟨(pe_tup h.pa).imp fun σ H Q ⟨h, m, st, ρ, hr, he, hq⟩ => ⟨h, m, st, ρ, hr, he, EO.bind hq fun xs st1 m1 H1 us e1 r1 rx h1 => by
    split at h1
    · rename_i hl
      exact ⟨by rw [← rx.length]; exact hl, fun p hp => h1 m1 _ _ (Ext.new r1 hp) (r1.new hp) (.tup (.inl ⟨r1.outh hp, .inl upd_same⟩) (rx.mono (Ext.new r1 hp)))⟩
    · exact h1.elim⟩⟩
theorem se_lst (h : SA t X W es cs) : SE t X W (.List es pos) (cLst cs) :=
  ⟨(pe_lst h.pa).imp fun σ H Q ⟨h, m, st, ρ, hr, he, hq⟩ => ⟨h, m, st, ρ, hr, he, EO.bind hq fun xs st1 m1 H1 us e1 r1 rx h1 => by
    split at h1
    · rename_i hl
      exact ⟨by rw [← rx.length]; exact hl, fun p hp => h1 m1 _ _ (Ext.new r1 hp) (r1.new hp) (.lv (r1.outh hp) upd_same (rx.mono (Ext.new r1 hp)))⟩
    · exact h1.elim⟩⟩
theorem get_new {g : Gd} {m : List Addr} {st : Sto} {H : Hp} (r : Rep g m st H) (p : Addr) : (m ++ [p])[st.length]? = some p := by
  rw [← r.len, List.getElem?_append_right (Nat.le_refl _), Nat.sub_self]
  rfl
theorem se_lstR (h : SA t X W es cs) : SE t X W (.List es pos) (cLstR cs) :=
  ⟨(pe_lst h.pa).imp fun σ H Q ⟨h, m, st, ρ, hr, he, hq⟩ => ⟨h, m, st, ρ, hr, he, EO.bind hq fun xs st1 m1 H1 us e1 r1 rx h1 => by
    split at h1
    · rename_i hl
      exact ⟨by rw [← rx.length]; exact hl, fun p hp => h1 (m1 ++ [p]) _ _ (Ext.cel r1 hp) (r1.addCel hp ⟨us, rfl, rx.mono (Ext.cel r1 hp)⟩) (.ref (get_new r1 p))⟩
    · exact h1.elim⟩⟩
end
end Fw
set_option Elab.async false
set_option linter.all false
set_option maxRecDepth 100000
set_option maxHeartbeats 4000000
namespace Fw
open PySem PySem.Spec PyProof.Rows L2
/-! ### calls -/
/-- a def's promise by a function -/
def spF (K : PySem.W.Frag) (t : Tb) (n : Nat) (cf : CF) : Sp := fun vs H Q E => vs.length = n ∧ ∃ h m st xs, Rep ⟨K, t, h⟩ m st H ∧ RVs ⟨K, t, h⟩ m H xs vs ∧ EO ⟨K, t, h⟩ (rV ⟨K, t, h⟩) (fun cls d _ H' => E cls d H') [] m H Q (cf xs st)
def startR (n : Nat) (xs : List PV) : Rho := xs.map some ++ List.replicate (n - xs.length) none
@[simp] def Sr.toF : Sr → Rs PV
  | .nx _ st => .ok .non st
  | .rt v st => .ok v st
  | .exc c _ st => .exc c st
  | _ => .bad
def mkF (n : Nat) (cb : CS) : CF := fun xs st => (cb (startR n xs) st).toF
theorem REnv.replicate {g : Gd} {m : List Addr} {H : Hp} : ∀ n : Nat, REnv g m H (List.replicate n none) (List.replicate n none)
  | 0 => .nil
  | n + 1 => .no (REnv.replicate n)
theorem REnv.start {g : Gd} {m : List Addr} {H : Hp} {N : List Str} : ∀ {xs : List PV} {vs : List V} (n : Nat), RVs g m H xs vs → REnv g m H (xs.map some ++ List.replicate n none) (vs.map some ++ List.replicate n none)
  | _, _, n, .nil => REnv.replicate n
  | _, _, n, .cons h r => .so h (REnv.start (N := N) n r)
theorem EO.wish {α β : Type} {g : Gd} {rel : List Addr → Hp → α → β → Prop} {W W' : WX} {σ σ' : L2.St} {m : List Addr} {H : Hp} {Q : β → Hp → Prop} (hw : ∀ c d H', W c d σ H' → W' c d σ' H') : ∀ {o : Rs α}, EO g rel W σ m H Q o → EO g rel W' σ' m H Q o
  | .ok _ _, h => h
  | .exc _ _, h => fun m' H' C d e r q => hw _ _ _ (h m' H' C d e r q)
  | .bad, h => h
section
variable {P : Program} {w : World} {K : PySem.W.Frag} {mg : Str → Option Value} {base : Heap} {t : Tb}
theorem body_ok {X : Cx} {W : WX} {E : XK} {Q : VK} {b : List Stmt} {cb : CS} {N ps : List Str} {vs : List V} {H : Hp} (hN : X.N = N) (h : SB t X W b cb) (hW : ∀ c d σ H', E c d H' → W c d σ H') (hp : spF X.K t ps.length (mkF N.length cb) vs H Q E) :
    ∃ u, PSs X b u ∧ u { nx := fun _ H' => Q .non H', rt := Q } (L2.start N vs) H := by
  obtain ⟨hl, hh, m, st, xs, R, rx, hq⟩ := hp
  refine ⟨_, h.ps, hh, m, st, startR N.length xs, R, ?_, ?_⟩
  · have e := rx.length
    unfold startR L2.start
    rw [e]
    exact REnv.start (N := N) _ rx
  · unfold mkF at hq
    revert hq
    cases cb (startR N.length xs) st with
    | nx r st' => exact fun hq m' H' σ' e r q => hq m' H' _ e r .non
    | rt v st' => exact fun hq => hq
    | bk r st' => exact fun hq => hq.elim
    | ct r st' => exact fun hq => hq.elim
    | exc c r st' => exact fun hq m' H' σ' C d e r q1 q2 => hW _ _ _ _ (hq m' H' C d e r q2)
    | bad => exact fun hq => hq.elim
/-- THE RULE for a def without defaults -/
theorem def_ok {x qual : Str} {sd : Stmt} {f : Addr} {fd : FuncData} {N ps : List Str} {k : Nat} {cb : CS} (F : Fun K x qual sd f fd) (S : FnScope N ps (defScope sd))
    (hb : ∀ (A : Around) (outer : List Env) (s : Shared) (H : Hp) (E : XK), Room k (A.deeper (envOfC qual (defScope sd) s.heap.objs.size f fd.code)) →
      SB t (cxOf (L2.CX P w) P w K mg base N qual (defScope sd) f fd.code A outer s H E) (fun cls d _ H' => E cls d H') (defBody sd) cb) :
    FnOk P w K mg base (L2.CX P w) (k + 1) f fd ps (spF K t ps.length (mkF N.length cb)) := by
  obtain ⟨oc, od, kV, doc, pm, an, cdv, ct, osl, rfl, lk, hcd⟩ := F.ex
  exact fn_of lk hcd S (fun vs H Q E h => h.1) fun A outer s H vs Q E hr h => body_ok (ps := ps) rfl (hb A outer s H E hr) (fun _ _ _ _ z => z) h
end
/-- .. with defaults -/
theorem def_okD {P : Program} {w : World} {K : PySem.W.Frag} {mg : Str → Option Value} {base : Heap} {t : Tb} {x qual : Str} {sd : Stmt} {dvs : List V} {kws : List (Str × V)} {f : Addr} {fd : FuncData} {N ps : List Str} {k : Nat} {cb : CS} (F : FunD K x qual (defArgs sd) (defBody sd) (defScope sd) dvs kws f fd) (S : FnScope N ps (defScope sd))
    (hb : ∀ (A : Around) (outer : List Env) (s : Shared) (H : Hp) (E : XK), Room k (A.deeper (envOfC qual (defScope sd) s.heap.objs.size f fd.code)) →
      SB t (cxOf (L2.CX P w) P w K mg base N qual (defScope sd) f fd.code A outer s H E) (fun cls d _ H' => E cls d H') (defBody sd) cb) :
    FnOk P w K mg base (L2.CX P w) (k + 1) f fd ps (spF K t ps.length (mkF N.length cb)) := by
  obtain ⟨oc, od, dV, kV, doc, pm, an, cdv, ct, osl, rfl, lk, hcd, _, _⟩ := F.ex
  exact fn_of lk hcd S (fun vs H Q E h => h.1) fun A outer s H vs Q E hr h => body_ok (ps := ps) rfl (hb A outer s H E hr) (fun _ _ _ _ z => z) h
def cCall (n : Nat) (dv : List PV) (cf : CF) (ca : CA) : CE := fun r st => (ca r st).bind fun xs st1 => if (xs ++ dv).length = n then cf (xs ++ dv) st1 else .bad
def isIns (st : Sto) (c : Nat) : PV → Bool
  | .ref i => match st[i]? with
    | some (.ins c' _) => c' == c
    | _ => false
  | _ => false
def cMeth (c n : Nat) (dv : List PV) (cf : CF) (co : CE) (ca : CA) : CE := fun r st => (co r st).bind fun o st1 => if isIns st1 c o = true then (ca r st1).bind fun xs st2 => if (o :: (xs ++ dv)).length = n then cf (o :: (xs ++ dv)) st2 else .bad else .bad
/-- a new instance of the class c with so many fields -/
def cMake (c nf n : Nat) (dv : List PV) (cf : CF) (ca : CA) : CE := fun r st => (ca r st).bind fun xs st1 => if (xs ++ dv).length + 1 = n then
  (cf (.ref st1.length :: (xs ++ dv)) (st1 ++ [.ins c (List.replicate nf none)])).bind fun v st2 => match v with
    | .non => .ok (.ref st1.length) st2
    | _ => .bad
  else .bad
theorem RVs.append {g : Gd} {m : List Addr} {H : Hp} : ∀ {xs ys : List PV} {us vs : List V}, RVs g m H xs us → RVs g m H ys vs → RVs g m H (xs ++ ys) (us ++ vs)
  | _, _, _, _, .nil, r => r
  | _, _, _, _, .cons h q, r => .cons h (RVs.append q r)
theorem isIns_at {st : Sto} {c : Nat} {o : PV} (h : isIns st c o = true) : ∃ i fs, o = .ref i ∧ st[i]? = some (.ins c fs) := by
  unfold isIns at h
  split at h
  · split at h
    · rename_i e
      exact ⟨_, _, rfl, by rw [e, beq_iff_eq.mp h]⟩
    · cases h
  · cases h
theorem RV.ref_inv {g : Gd} {m : List Addr} {H : Hp} {i : Nat} {v : V} (h : RV g m H (.ref i) v) : ∃ a, v = .ref a ∧ m[i]? = some a := by
  cases h with
  | ref e => exact ⟨_, rfl, e⟩
/-- the instance behind a reference -/
theorem Rep.ins {g : Gd} {m : List Addr} {st : Sto} {H : Hp} (r : Rep g m st H) {i c : Nat} {fs : List (Option PV)} {v : V} (h : st[i]? = some (.ins c fs)) (rv : RV g m H (.ref i) v) :
    ∃ a C ns dx vs, v = .ref a ∧ m[i]? = some a ∧ H a = some (.ins C dx vs) ∧ g.t.C[c]? = some (C, ns) ∧ RFs g m H ns fs vs := by
  obtain ⟨a, rfl, e⟩ := rv.ref_inv
  obtain ⟨o, e1, C, ns, dx, vs, e2, e3, q⟩ := r.at_ i a _ e h
  exact ⟨a, C, ns, dx, vs, rfl, e, by rw [e1, e3], e2, q⟩
theorem lookup_notin {fs : List (Str × V)} {n : Str} (h : n ∉ fs.map (·.1)) : fs.lookup n = none := by
  induction fs with
  | nil => rfl
  | cons p r ih =>
    rw [List.map_cons, List.mem_cons, not_or] at h
    obtain ⟨k, v⟩ := p
    have hk : (n == k) = false := beq_eq_false_iff_ne.mpr h.1
    rw [List.lookup_cons, hk]
    exact ih h.2
theorem RFs.no {g : Gd} {m : List Addr} {H : Hp} {ns : List Str} {xs : List (Option PV)} {fs : List (Str × V)} (h : RFs g m H ns xs fs) {n : Str} (hn : n ∉ ns) : fs.lookup n = none := lookup_notin fun z => hn (h.sub n z)
/-- a new instance without fields -/
theorem RFs.nil {g : Gd} {m : List Addr} {H : Hp} {ns : List Str} : RFs g m H ns (List.replicate ns.length none) [] := by
  refine ⟨by simp, by simp, by simp, fun i n hn => .inr ⟨?_, rfl⟩⟩
  rw [List.getElem?_replicate, if_pos (List.getElem?_eq_some_iff.mp hn).1]
section
variable {t : Tb} {X : Cx} {W : WX} {pos p apos : Pos} {k n : Nat} {f C : Addr} {fd : FuncData} {ps ns : List Str} {cf : CF} {dvs : List V} {ds : List Value} {dv : List PV} {x mn : Str} {e o : Expr} {es : List Expr} {ca : CA} {co : CE} {c : Nat}
theorem RVs.len_dv {g : Gd} {m : List Addr} {H : Hp} {xs : List PV} {vs : List V} (r : RVs g m H xs vs) (rd : RVs g m H dv dvs) : (vs ++ dvs).length = (xs ++ dv).length := ((RVs.append r rd).length).symm
/-- a callee's promise from a result -/
theorem sp_of {h : List Addr} {m : List Addr} {st : Sto} {H : Hp} {xs : List PV} {vs : List V} {σ : L2.St} {Q : VK} (R : Rep (gd X t h) m st H) (r : RVs (gd X t h) m H xs vs) (hl : xs.length = n) (hq : EO (gd X t h) (rV (gd X t h)) W σ m H Q (cf xs st)) :
    spF X.K t n cf vs H Q (WE W σ) := ⟨by rw [← r.length, hl], h, m, st, xs, R, r, EO.wish (fun _ _ _ z => z) hq⟩
theorem se_call (F : FnOk X.prog X.w X.K X.mg X.base (L2.CX X.prog X.w) k f fd ps (spF X.K t n cf)) (hr : Room k X.A) (hg : Gl X x) (hm : X.mg x = some (.ref f)) (hk : PySem.W.keepIn X.K (.ref f) = true) (hb : Binds X.K fd ps ds) (hd : Vals dvs ds) (hdv : ∀ h m H, RVs (gd X t h) m H dv dvs) (tk : Takes X W)
    (ha : SA t X W (e :: es) ca) (hdb : (x == ("__debug__" : Str)) = false := by decide) (he : starEach (e :: es) X.env = (false, eval e X.env) :: starEach es X.env := by rfl) (hpl : (backTo pos (starEach es X.env)).any (·.1) = false := by rfl) :
    SE t X W (.Call (.Name x p) (e :: es) [] pos) (cCall n dv cf ca) :=
  ⟨(pe_callSD (E := WE W) F hr hg hm hk hb hd (passAt tk) ha.pa hdb he hpl).imp fun σ H Q ⟨h, m, st, ρ, hr, he, hq⟩ => ⟨h, m, st, ρ, hr, he, EO.bind hq fun xs st1 m1 H1 us e1 r1 rx h1 => by
    split at h1
    · rename_i hl
      exact sp_of r1 (rx.append (hdv h m1 H1)) hl h1
    · exact h1.elim⟩⟩
theorem se_call0 (F : FnOk X.prog X.w X.K X.mg X.base (L2.CX X.prog X.w) k f fd ps (spF X.K t n cf)) (hr : Room k X.A) (hg : Gl X x) (hm : X.mg x = some (.ref f)) (hk : PySem.W.keepIn X.K (.ref f) = true) (hb : Binds X.K fd ps ds) (hd : Vals dvs ds) (hdv : ∀ h m H, RVs (gd X t h) m H dv dvs) (tk : Takes X W)
    (hdb : (x == ("__debug__" : Str)) = false := by decide) : SE t X W (.Call (.Name x p) [] [] pos) (cCall n dv cf cNil) := by
  refine ⟨⟨fun pins s σ H Q I ⟨h, m, st, ρ, hr', he, hq⟩ => ?_⟩⟩
  refine wpAny_Call_Name_kw (ld_glob I hg hm ?_ hdb)
  refine PySem.W.callWith_K0 I.kIn hk (run_fnSD (us := []) (vs := []) F hr hb hd (passAt tk σ) I .nil ?_)
  have h1 : EO (gd X t h) (rV (gd X t h)) W σ m H Q (if ([] ++ dv).length = n then cf ([] ++ dv) st else .bad) := hq
  split at h1
  · rename_i hl
    exact sp_of hr' (RVs.nil.append (hdv h m H)) hl h1
  · exact h1.elim
/-- o.m(e, ..), o an instance of the class c -/
theorem meth_core {pl : Sem Bool} {args : List Expr} (hC : t.C[c]? = some (C, ns)) (hno : mn ∉ ns) (cl : Cls X.K C) (hm : Meth X.K C mn f) (F : FnOk X.prog X.w X.K X.mg X.base (L2.CX X.prog X.w) k f fd ps (spF X.K t n cf)) (hr : Room k X.A) (hb : Binds X.K fd ps ds) (hd : Vals dvs ds) (hdv : ∀ h m H, RVs (gd X t h) m H dv dvs) (tk : Takes X W)
    (ho : SE t X W o co)
    (hargs : ∀ (pins : List (Addr × Obj)) (s : Shared) (σ : L2.St) (H : Hp) (a : Addr) (Q : Value → Shared → Prop) (R : List V → Hp → Prop), Inv X pins σ H s → tA X.K t W ca σ H R →
      (∀ us vs s2 H2, Inv X pins σ H2 s2 → Vals vs us → R vs H2 → wpAny (model X.prog X.w) X.A (call (.ref f) (.ref a :: us)) Q X.xe s2) → wpAny (model X.prog X.w) X.A (callWith pos (.ref f) [.ref a] (backTo pos (starEach args X.env)) (backToKw pos (keywordEach [] X.env))) Q X.xe s)
    (ht : eval (.Call (.Attribute o mn apos) args [] pos) X.env = (do
      let ov ← eval o X.env
      standAt apos.atName
      let (f, first) ← holding [ov] (getMethod ov mn pl)
      callWith pos f first (backTo pos (starEach args X.env)) (backToKw pos (keywordEach [] X.env)))) :
    SE t X W (.Call (.Attribute o mn apos) args [] pos) (cMeth c n dv cf co ca) := by
  refine ⟨⟨fun pins s σ H Q I ⟨h, m, st, ρ, hr', he, hq⟩ => methcall_of (pl := pl) ho.pe I ⟨h, m, st, ρ, hr', he, EO.bind hq fun x st1 m1 H1 u e1 r1 rx h1 => ?_⟩ ht⟩⟩
  split at h1
  · rename_i hi
    obtain ⟨i, fs, rfl, hfs⟩ := isIns_at hi
    obtain ⟨a, C', ns', dx, vs, rfl, hma, hHa, hC', rf⟩ := r1.ins hfs rx
    have e2 := hC.symm.trans hC'
    cases e2
    refine ⟨a, C, dx, vs, f, rfl, hHa, cl, hm, rf.no hno, fun s1 I1 => hargs pins s1 σ H1 a _ (fun vs2 H2 => ∃ m2 st2 xs, Ext m1 H1 m2 H2 ∧ Rep (gd X t h) m2 st2 H2 ∧ RVs (gd X t h) m2 H2 xs vs2 ∧ EO (gd X t h) (rV (gd X t h)) W σ m2 H2 Q (if (PV.ref i :: (xs ++ dv)).length = n then cf (PV.ref i :: (xs ++ dv)) st2 else .bad)) I1 ⟨h, m1, st1, ρ, r1, he.mono e1, EO.bind h1 fun xs st2 m2 H2 us e2 r2 rxs h2 => ⟨m2, st2, xs, e2, r2, rxs, h2⟩⟩ fun us vs2 s2 H2 I2 rv ⟨m2, st2, xs, e2, r2, rxs, h2⟩ => ?_⟩
    split at h2
    · rename_i hl
      exact run_fnSD (vs := .ref a :: vs2) (us := .ref a :: us) F hr hb hd (passAt tk σ) I2 (.cons rfl rv) (sp_of r2 (RVs.cons (rx.mono e2) (rxs.append (hdv h m2 H2))) hl h2)
    · exact h2.elim
  · exact h1.elim
theorem se_meth {pl : Sem Bool} (hC : t.C[c]? = some (C, ns)) (hno : mn ∉ ns) (cl : Cls X.K C) (hm : Meth X.K C mn f) (F : FnOk X.prog X.w X.K X.mg X.base (L2.CX X.prog X.w) k f fd ps (spF X.K t n cf)) (hr : Room k X.A) (hb : Binds X.K fd ps ds) (hd : Vals dvs ds) (hdv : ∀ h m H, RVs (gd X t h) m H dv dvs) (tk : Takes X W)
    (ho : SE t X W o co) (ha : SA t X W (e :: es) ca) (hst : starEach (e :: es) X.env = (false, eval e X.env) :: starEach es X.env := by rfl) (hpl : (backTo pos (starEach es X.env)).any (·.1) = false := by rfl)
    (ht : eval (.Call (.Attribute o mn apos) (e :: es) [] pos) X.env = (do
      let ov ← eval o X.env
      standAt apos.atName
      let (f, first) ← holding [ov] (getMethod ov mn pl)
      callWith pos f first (backTo pos (starEach (e :: es) X.env)) (backToKw pos (keywordEach [] X.env))) := by rfl) :
    SE t X W (.Call (.Attribute o mn apos) (e :: es) [] pos) (cMeth c n dv cf co ca) :=
  meth_core (pl := pl) hC hno cl hm F hr hb hd hdv tk ho (fun pins s σ H a Q R I hw hk => PySem.W.callWith_K (first := [.ref a]) (h₀ := X.base) I.ok.mod.kin hm.kp (thn (ha.pa.run pos pins s σ H R I hw) fun us s2 ⟨vs, H2, I2, r, q2⟩ => ⟨I2.kIn, hk us vs s2 H2 I2 r q2⟩) hst hpl) ht
theorem se_meth0 {pl : Sem Bool} (hC : t.C[c]? = some (C, ns)) (hno : mn ∉ ns) (cl : Cls X.K C) (hm : Meth X.K C mn f) (F : FnOk X.prog X.w X.K X.mg X.base (L2.CX X.prog X.w) k f fd ps (spF X.K t n cf)) (hr : Room k X.A) (hb : Binds X.K fd ps ds) (hd : Vals dvs ds) (hdv : ∀ h m H, RVs (gd X t h) m H dv dvs) (tk : Takes X W)
    (ho : SE t X W o co)
    (ht : eval (.Call (.Attribute o mn apos) [] [] pos) X.env = (do
      let ov ← eval o X.env
      standAt apos.atName
      let (f, first) ← holding [ov] (getMethod ov mn pl)
      callWith pos f first (backTo pos (starEach [] X.env)) (backToKw pos (keywordEach [] X.env))) := by rfl) :
    SE t X W (.Call (.Attribute o mn apos) [] [] pos) (cMeth c n dv cf co cNil) :=
  meth_core (pl := pl) hC hno cl hm F hr hb hd hdv tk ho (fun pins s σ H a Q R I ⟨h, m, st, ρ, r, he, hq⟩ hk => PySem.W.callWith_K0 I.kIn hm.kp (hk [] [] s H I .nil (hq m H [] r.refl r .nil))) ht
/-- C(..) at a wish with slots -/
theorem run_makeS {pins : List (Addr × Obj)} {s : Shared} {σ : L2.St} {H : Hp} {Q : VK} {us : List Value} {vs : List V} {sp : Sp} (M : Mk X.K C f) (F : FnOk X.prog X.w X.K X.mg X.base (L2.CX X.prog X.w) k f fd ps sp) (hr : Room (k + 1) X.A) (hb : Binds X.K fd ps ds) (hd : Vals dvs ds) (tk : Takes X W) (I : Inv X pins σ H s) (r : Vals vs us)
    (h : ∀ x dx, H x = none → H dx = none → dx ≠ x → sp (.ref x :: (vs ++ dvs)) (upd (upd H dx (.own x)) x (.ins C dx [])) (fun v H2 => v = .non ∧ Q (.ref x) H2) (WE W σ)) : wpAny (model X.prog X.w) X.A (call (.ref C) us) (EP X pins σ Q) X.xe s := by
  have a1 := Nat.le_succ s.heap.objs.size
  have q0 := h (s.heap.objs.size + 1) s.heap.objs.size (I.hok.fresh a1) (I.hok.fresh (Nat.le_refl _)) (Nat.ne_of_lt (Nat.lt_succ_self _))
  have J := Inv.made (C := C) I
  have rr : Vals (V.ref (s.heap.objs.size + 1) :: (vs ++ dvs)) (Value.ref (s.heap.objs.size + 1) :: (us ++ ds)) := .cons rfl (r.append hd)
  have ll : (Value.ref (s.heap.objs.size + 1) :: us ++ ds).length = ps.length := (rr.length.symm).trans (F.len _ _ _ _ q0)
  have run := F.run (X.A.under (.builtin "type.__call__" ⟨.ref C :: us, []⟩)) X.stack _ _ ⟨Value.ref (s.heap.objs.size + 1) :: us, []⟩ _ _ _ _ (hr.make C us []) (J.env0.make C us []) (hb _ (Value.ref (s.heap.objs.size + 1) :: us) J.kIn ll) rr q0
  refine wpAny_call (make_map (f := f) I.kIn M.makes M.init (beq_iff_eq.mp M.fn) (codeAny_mono run fun o s' ho => ?_))
  match o, ho with
  | .error x, ho => exact passAt tk σ pins _ _ x s' J ho
  | .ok (.ret u), ho =>
    obtain ⟨v, H', I3, rv, ev, q3⟩ := J.after ho
    subst ev
    exact ⟨rv, .ref (s.heap.objs.size + 1), H', I3, rfl, q3⟩
  | .ok .next, ho => exact ho.elim
  | .ok .brk, ho => exact ho.elim
  | .ok .cont, ho => exact ho.elim
theorem make_sp {h : List Addr} {m : List Addr} {st : Sto} {H : Hp} {xs : List PV} {vs : List V} {σ : L2.St} {Q : VK} (hC : t.C[c]? = some (C, ns)) (R : Rep (gd X t h) m st H) (r : RVs (gd X t h) m H xs vs) (hl : xs.length + 1 = n)
    (hq : EO (gd X t h) (rV (gd X t h)) W σ m H Q ((cf (.ref st.length :: xs) (st ++ [.ins c (List.replicate ns.length none)])).bind fun v st2 => match v with | .non => .ok (.ref st.length) st2 | _ => .bad)) :
    ∀ x dx, H x = none → H dx = none → dx ≠ x → spF X.K t n cf (.ref x :: vs) (upd (upd H dx (.own x)) x (.ins C dx [])) (fun v H2 => v = .non ∧ Q (.ref x) H2) (WE W σ) := by
  intro x dx hx hdx ne
  have R1 := R.new (o := .own x) hdx
  have E1 := Ext.new (o := .own x) R hdx
  have hx1 : upd H dx (.own x) x = none := by rw [upd_ne (Ne.symm ne)]; exact hx
  have E2 := Ext.cel (o := .ins C dx []) R1 hx1
  have R2 := R1.addCel (c := .ins c (List.replicate ns.length none)) hx1 (o := .ins C dx []) ⟨C, ns, dx, [], hC, rfl, RFs.nil⟩
  have E3 := E1.trans E2
  have hq2 := hq.ext E3
  refine sp_of (σ := σ) R2 (RVs.cons (.ref (get_new R1 x)) (r.mono E3)) (by simpa using hl) (EO.bind hq2 fun v st2 m2 H2 u e2 r2 rv h2 => ?_)
  cases v with
  | non =>
    cases rv
    refine ⟨rfl, h2 m2 H2 _ r2.refl r2 (.ref ?_)⟩
    obtain ⟨l, e, _⟩ := e2.pre
    rw [e]
    exact get_pre (get_new R1 x)
  | _ => exact h2.elim
theorem se_make (hC : t.C[c]? = some (C, ns)) (M : Mk X.K C f) (F : FnOk X.prog X.w X.K X.mg X.base (L2.CX X.prog X.w) k f fd ps (spF X.K t n cf)) (hr : Room (k + 1) X.A) (hg : Gl X x) (hm : X.mg x = some (.ref C)) (hb : Binds X.K fd ps ds) (hd : Vals dvs ds) (hdv : ∀ h m H, RVs (gd X t h) m H dv dvs) (tk : Takes X W)
    (ha : SA t X W (e :: es) ca) (hdb : (x == ("__debug__" : Str)) = false := by decide) (he : starEach (e :: es) X.env = (false, eval e X.env) :: starEach es X.env := by rfl) (hpl : (backTo pos (starEach es X.env)).any (·.1) = false := by rfl) :
    SE t X W (.Call (.Name x p) (e :: es) [] pos) (cMake c ns.length n dv cf ca) := by
  refine ⟨⟨fun pins s σ H Q I ⟨h, m, st, ρ, hr', hen, hq⟩ => ?_⟩⟩
  refine wpAny_Call_Name_kw (ld_glob I hg hm ?_ hdb)
  refine PySem.W.callWith_K (h₀ := X.base) I.ok.mod.kin M.kp (thn (ha.pa.run pos pins s σ H (fun vs H1 => ∃ m1 st1 xs, Rep (gd X t h) m1 st1 H1 ∧ RVs (gd X t h) m1 H1 xs vs ∧ EO (gd X t h) (rV (gd X t h)) W σ m1 H1 Q _) I ⟨h, m, st, ρ, hr', hen, EO.bind hq fun xs st1 m1 H1 us e1 r1 rx h1 => ⟨m1, st1, xs, r1, rx, h1⟩⟩) fun us s1 ⟨vs, H1, I1, rv, m1, st1, xs, r1, rx, h1⟩ => ⟨I1.kIn, ?_⟩) he hpl
  split at h1
  · rename_i hl
    exact run_makeS M F hr hb hd tk I1 rv (make_sp hC r1 (rx.append (hdv h m1 H1)) hl h1)
  · exact h1.elim
theorem se_make0 (hC : t.C[c]? = some (C, ns)) (M : Mk X.K C f) (F : FnOk X.prog X.w X.K X.mg X.base (L2.CX X.prog X.w) k f fd ps (spF X.K t n cf)) (hr : Room (k + 1) X.A) (hg : Gl X x) (hm : X.mg x = some (.ref C)) (hb : Binds X.K fd ps ds) (hd : Vals dvs ds) (hdv : ∀ h m H, RVs (gd X t h) m H dv dvs) (tk : Takes X W)
    (hdb : (x == ("__debug__" : Str)) = false := by decide) : SE t X W (.Call (.Name x p) [] [] pos) (cMake c ns.length n dv cf cNil) := by
  refine ⟨⟨fun pins s σ H Q I ⟨h, m, st, ρ, hr', hen, hq⟩ => ?_⟩⟩
  refine wpAny_Call_Name_kw (ld_glob I hg hm ?_ hdb)
  have h1 : EO (gd X t h) (rV (gd X t h)) W σ m H Q (if ([] ++ dv).length + 1 = n then _ else .bad) := hq
  split at h1
  · rename_i hl
    exact PySem.W.callWith_K0 I.kIn M.kp (run_makeS (us := []) (vs := []) M F hr hb hd tk I .nil (make_sp hC hr' (RVs.nil.append (hdv h m H)) hl h1))
  · exact h1.elim
/-! ### built-in functions and methods -/
theorem se_callB {id : String} {r : List V → Hp → VK → Prop} {fb : Sto → List PV → Option PV} (hc : CallR X (.builtin id) r) (hf : FnG X.K t r fb) (hg : Gl X x) (hm : X.mg x = none) (hv : bootBuiltins x = some (.builtin id)) (ha : SA t X W (e :: es) ca) (hn : x ≠ "__name__" := by decide) (hdb : (x == ("__debug__" : Str)) = false := by decide)
    (he : starEach (e :: es) X.env = (false, eval e X.env) :: starEach es X.env := by rfl) (hpl : (backTo pos (starEach es X.env)).any (·.1) = false := by rfl) : SE t X W (.Call (.Name x p) (e :: es) [] pos) (cFn fb ca) :=
  ⟨(pe_callB hc hg hm hv ha.pa hn hdb he hpl).imp fun σ H Q ⟨h, m, st, ρ, hr, he, hq⟩ => ⟨h, m, st, ρ, hr, he, EO.bind hq fun xs st1 m1 H1 us e1 r1 rx h1 => by
    obtain ⟨z, ez, hz⟩ := fin_op h1
    exact hf h m1 st1 H1 xs us z Q r1 rx ez hz⟩⟩
theorem se_callTy {T : String} {r : List V → Hp → VK → Prop} {fb : Sto → List PV → Option PV} (hc : CallR X (.type T) r) (hf : FnG X.K t r fb) (hg : Gl X x) (hm : X.mg x = none) (hv : bootBuiltins x = some (.type T)) (ha : SA t X W (e :: es) ca) (hn : x ≠ "__name__" := by decide) (hdb : (x == ("__debug__" : Str)) = false := by decide)
    (he : starEach (e :: es) X.env = (false, eval e X.env) :: starEach es X.env := by rfl) (hpl : (backTo pos (starEach es X.env)).any (·.1) = false := by rfl) : SE t X W (.Call (.Name x p) (e :: es) [] pos) (cFn fb ca) :=
  ⟨(pe_callTy hc hg hm hv ha.pa hn hdb he hpl).imp fun σ H Q ⟨h, m, st, ρ, hr, he, hq⟩ => ⟨h, m, st, ρ, hr, he, EO.bind hq fun xs st1 m1 H1 us e1 r1 rx h1 => by
    obtain ⟨z, ez, hz⟩ := fin_op h1
    exact hf h m1 st1 H1 xs us z Q r1 rx ez hz⟩⟩
/-- a built-in method: ty tells the receiver's kind ahead of the arguments -/
def cBM (ty : Sto → PV → Bool) (fm : Sto → PV → List PV → Option (PV × Sto)) (co : CE) (ca : CA) : CE := fun r st => (co r st).bind fun x st1 => if ty st1 x = true then (ca r st1).bind fun xs st2 => match fm st2 x xs with
    | some (z, st3) => .ok z st3
    | none => .bad
  else .bad
def MtG (K : PySem.W.Frag) (t : Tb) (r : V → List V → Hp → VK → Prop) (fm : Sto → PV → List PV → Option (PV × Sto)) : Prop := ∀ h m st H x u xs us z st' Q, Rep ⟨K, t, h⟩ m st H → RV ⟨K, t, h⟩ m H x u → RVs ⟨K, t, h⟩ m H xs us → fm st x xs = some (z, st') →
  (∀ m' H' w, Ext m H m' H' → Rep ⟨K, t, h⟩ m' st' H' → RV ⟨K, t, h⟩ m' H' z w → Q w H') → r u us H Q
def TyG (K : PySem.W.Frag) (t : Tb) (T : String) (ty : Sto → PV → Bool) : Prop := ∀ h m st H x u, Rep ⟨K, t, h⟩ m st H → RV ⟨K, t, h⟩ m H x u → ty st x = true → tyV K T u H
theorem fin_mt {g : Gd} {σ : L2.St} {m : List Addr} {H : Hp} {Q : VK} {o : Option (PV × Sto)} (h : EO g (rV g) W σ m H Q (match o with | some (z, st3) => Rs.ok z st3 | none => Rs.bad)) :
    ∃ z st', o = some (z, st') ∧ ∀ m' H' w, Ext m H m' H' → Rep g m' st' H' → RV g m' H' z w → Q w H' := by
  match o, h with
  | none, h => exact h.elim
  | some (z, st'), h => exact ⟨z, st', rfl, h⟩
variable {T id : String} {r : V → List V → Hp → VK → Prop} {name : Str} {cpos : Pos} {ty : Sto → PV → Bool} {fm : Sto → PV → List PV → Option (PV × Sto)}
theorem se_bm (pa : PlainAttrs T) (slot : Slot T name id) (hty : typeOf (.builtin id) = pure (.type "method_descriptor")) (hm : MtR X id r) (hf : MtG X.K t r fm) (hT : TyG X.K t T ty) (ho : SE t X W o co) (ha : SA t X W (e :: es) ca)
    (hbase : attributeBase o name X.env (eval o X.env) = eval o X.env := by rfl) (he : starEach (e :: es) X.env = (false, eval e X.env) :: starEach es X.env := by rfl) (hpl : (backTo cpos (starEach es X.env)).any (·.1) = false := by rfl) (hline : (apos.endLine == cpos.line) = true := by rfl)
    (hfew : ((backTo cpos (starEach (e :: es) X.env)).all (fun x => !x.1) && (backToKw cpos (keywordEach [] X.env)).all (fun x => x.1.isSome) && decide ((e :: es).length + ([] : List Keyword).length + (if ([] : List Keyword).isEmpty then 0 else 1) < 30)) = true := by rfl) :
    SE t X W (.Call (.Attribute o name apos) (e :: es) [] cpos) (cBM ty fm co ca) := by
  refine ⟨L2.PE.imp (t := tBM X.K T r (tE X.K t W co) (tA X.K t W ca)) (pe_bm pa slot hty hm ho.pe ha.pa hbase hfew hline he hpl) fun σ H Q ⟨h, m, st, ρ, hr, he, hq⟩ => ⟨h, m, st, ρ, hr, he, EO.bind hq fun x st1 m1 H1 u e1 r1 rx h1 => ?_⟩⟩
  split at h1
  · rename_i hy
    refine ⟨hT h m1 st1 H1 x u r1 rx hy, h, m1, st1, ρ, r1, he.mono e1, EO.bind h1 fun xs st2 m2 H2 us e2 r2 rxs h2 => ?_⟩
    obtain ⟨z, st3, ez, hz⟩ := fin_mt (W := W) (σ := σ) h2
    exact hf h m2 st2 H2 x u xs us z st3 Q r2 (rx.mono e2) rxs ez hz
  · exact h1.elim
theorem se_bm0 (pa : PlainAttrs T) (slot : Slot T name id) (hty : typeOf (.builtin id) = pure (.type "method_descriptor")) (hm : MtR X id r) (hf : MtG X.K t r fm) (hT : TyG X.K t T ty) (ho : SE t X W o co)
    (hbase : attributeBase o name X.env (eval o X.env) = eval o X.env := by rfl) (hline : (apos.endLine == cpos.line) = true := by rfl) :
    SE t X W (.Call (.Attribute o name apos) [] [] cpos) (cBM ty fm co cNil) := by
  refine ⟨L2.PE.imp (pe_bm0 pa slot hty hm ho.pe hbase hline) fun σ H Q ⟨h, m, st, ρ, hr, he, hq⟩ => ⟨h, m, st, ρ, hr, he, EO.bind hq fun x st1 m1 H1 u e1 r1 rx h1 => ?_⟩⟩
  split at h1
  · rename_i hy
    have h2 : EO (gd X t h) (rV (gd X t h)) W σ m1 H1 Q (match fm st1 x [] with | some (z, st3) => Rs.ok z st3 | none => Rs.bad) := h1
    obtain ⟨z, st3, ez, hz⟩ := fin_mt (W := W) (σ := σ) h2
    exact ⟨hT h m1 st1 H1 x u r1 rx hy, hf h m1 st1 H1 x u [] [] z st3 Q r1 rx .nil ez hz⟩
  · exact h1.elim
end
end Fw
set_option Elab.async false
set_option linter.all false
set_option maxRecDepth 100000
set_option maxHeartbeats 4000000
namespace Fw
open PySem PySem.Spec PyProof.Rows L2
/-! ### what stands behind a value -/
/-- the items of a list that may be read and joined -/
def listOf (st : Sto) : PV → Option (List PV)
  | .lv xs => some xs
  | .ref i => match st[i]? with
    | some (.lst xs) => some xs
    | _ => none
  | _ => none
/-- the items of a list or tuple -/
def seqOf (st : Sto) : PV → Option (List PV)
  | .tup xs => some xs
  | .fz xs => some xs
  | x => listOf st x
theorem listOf_at {g : Gd} {m : List Addr} {st : Sto} {H : Hp} (R : Rep g m st H) {x : PV} {u : V} {xs : List PV} (r : RV g m H x u) (e : listOf st x = some xs) : ∃ p vs, u = .ref p ∧ H p = some (.lst vs) ∧ RVs g m H xs vs := by
  cases r with
  | lv n h q => cases e; exact ⟨_, _, rfl, h, q⟩
  | ref h =>
    simp only [listOf] at e
    split at e
    · rename_i ys hy
      cases e
      obtain ⟨o, h1, vs, h2, q⟩ := R.at_ _ _ _ h hy
      exact ⟨_, vs, rfl, by rw [h1, h2], q⟩
    · cases e
  | _ => cases e
theorem seqOf_at {g : Gd} {m : List Addr} {st : Sto} {H : Hp} (R : Rep g m st H) {x : PV} {u : V} {xs : List PV} (r : RV g m H x u) (e : seqOf st x = some xs) : ∃ p vs, u = .ref p ∧ (SqL g.K H p vs ∨ SqT g.K H p vs) ∧ RVs g m H xs vs := by
  cases r with
  | tup h q => cases e; exact ⟨_, _, rfl, .inr h.sq, q⟩
  | fz h q => cases e; exact ⟨_, _, rfl, .inl h.sq, q⟩
  | lv n h q => cases e; exact ⟨_, _, rfl, .inl (SqL.of h), q⟩
  | ref h =>
    obtain ⟨p, vs, e1, e2, e3⟩ := listOf_at R (.ref h) (by exact e)
    exact ⟨p, vs, e1, .inl (SqL.of e2), e3⟩
  | _ => cases e
theorem RVs.get {g : Gd} {m : List Addr} {H : Hp} : ∀ {xs : List PV} {vs : List V} {i : Nat} {x : PV}, RVs g m H xs vs → xs[i]? = some x → ∃ v, vs[i]? = some v ∧ RV g m H x v
  | _, _, _, _, .nil, h => by simp at h
  | _, _, 0, _, .cons q _, h => by simp at h; subst h; exact ⟨_, rfl, q⟩
  | _, _, i + 1, _, .cons _ t, h => by simpa using RVs.get t (i := i) (by simpa using h)
theorem RVs.set {g : Gd} {m : List Addr} {H : Hp} {x : PV} {v : V} (q : RV g m H x v) : ∀ {xs : List PV} {vs : List V} (i : Nat), RVs g m H xs vs → RVs g m H (xs.set i x) (vs.set i v)
  | _, _, _, .nil => .nil
  | _, _, 0, .cons _ t => .cons q t
  | _, _, i + 1, .cons h t => .cons h (RVs.set q i t)
theorem RVs.take {g : Gd} {m : List Addr} {H : Hp} : ∀ {xs : List PV} {vs : List V} (n : Nat), RVs g m H xs vs → RVs g m H (xs.take n) (vs.take n)
  | _, _, 0, _ => .nil
  | _, _, n + 1, .nil => .nil
  | _, _, n + 1, .cons h t => .cons h (RVs.take n t)
theorem RVs.drop {g : Gd} {m : List Addr} {H : Hp} : ∀ {xs : List PV} {vs : List V} (n : Nat), RVs g m H xs vs → RVs g m H (xs.drop n) (vs.drop n)
  | _, _, 0, h => h
  | _, _, n + 1, .nil => .nil
  | _, _, n + 1, .cons h t => RVs.drop n t
theorem RVs.eraseIdx {g : Gd} {m : List Addr} {H : Hp} : ∀ {xs : List PV} {vs : List V} (n : Nat), RVs g m H xs vs → RVs g m H (xs.eraseIdx n) (vs.eraseIdx n)
  | _, _, n, .nil => by simpa using .nil
  | _, _, 0, .cons h t => by simpa using t
  | _, _, n + 1, .cons h t => by simpa using RVs.cons h (RVs.eraseIdx n t)
theorem RVs.nil_iff {g : Gd} {m : List Addr} {H : Hp} {xs : List PV} {vs : List V} (r : RVs g m H xs vs) : vs = [] ↔ xs = [] := by
  cases r <;> simp
theorem RVs.rep {g : Gd} {m : List Addr} {H : Hp} {xs : List PV} {vs : List V} (r : RVs g m H xs vs) : ∀ n : Nat, RVs g m H (List.replicate n xs).flatten (List.replicate n vs).flatten
  | 0 => by simpa using .nil
  | n + 1 => by simpa [List.replicate_succ] using RVs.append r (RVs.rep r n)
theorem RV.int_inv {g : Gd} {m : List Addr} {H : Hp} {i : Int} {v : V} (h : RV g m H (.int i) v) : v = .int i := by cases h; rfl
theorem RV.str_inv {g : Gd} {m : List Addr} {H : Hp} {i : Str} {v : V} (h : RV g m H (.str i) v) : v = .str i := by cases h; rfl
theorem RV.bl_inv {g : Gd} {m : List Addr} {H : Hp} {i : Bool} {v : V} (h : RV g m H (.bl i) v) : v = .bl i := by cases h; rfl
/-! ### numbers -/
def f2I (f : Int → Int → Option PV) : Sto → PV → PV → Option PV := fun _ x y => match x, y with
  | .int i, .int j => f i j
  | _, _ => none
theorem f2I_inv {f : Int → Int → Option PV} {st : Sto} {x y z : PV} (h : f2I f st x y = some z) : ∃ i j, x = .int i ∧ y = .int j ∧ f i j = some z := by
  unfold f2I at h
  split at h
  · exact ⟨_, _, rfl, rfl, h⟩
  · cases h
abbrev fSub := f2I fun i j => some (.int (i - j))
abbrev fMulI := f2I fun i j => if (-(2 ^ 64) < i ∧ i < 2 ^ 64) ∨ (-(2 ^ 64) < j ∧ j < 2 ^ 64) then some (.int (i * j)) else none
abbrev fDiv := f2I fun i j => if 0 < j ∧ j < 2 ^ 64 then some (.int (i / j)) else none
abbrev fMod := f2I fun i j => if 0 < j then some (.int (i % j)) else none
abbrev fPow := f2I fun i j => if 0 ≤ j ∧ j ≤ 1000000 ∧ i.natAbs < 2 ^ 64 then some (.int (i ^ j.toNat)) else none
abbrev fLt := f2I fun i j => some (.bl (decide (i < j)))
abbrev fLe := f2I fun i j => some (.bl (decide (i ≤ j)))
abbrev fGt := f2I fun i j => some (.bl (decide (j < i)))
abbrev fGe := f2I fun i j => some (.bl (decide (j ≤ i)))
abbrev fXor := f2I fun i j => some (.int (Builtin.bitXor i j))
abbrev fAnd := f2I fun i j => some (.int (Builtin.bitAnd i j))
abbrev fOr := f2I fun i j => some (.int (Builtin.bitOr i j))
section
variable {K : PySem.W.Frag} {t : Tb}
theorem og_rI {C : Int → Int → Prop} {g : Int → Int → V} {f : Int → Int → Option PV} (hf : ∀ i j z, f i j = some z → C i j ∧ ∀ h m H, RV ⟨K, t, h⟩ m H z (g i j)) : OpG K t (rI C g) (f2I f) := by
  intro h m st H x y u v z Q R rx ry e q
  obtain ⟨i, j, rfl, rfl, e⟩ := f2I_inv e
  obtain ⟨c, hv⟩ := hf i j z e
  exact ⟨i, j, rx.int_inv, ry.int_inv, c, q m H _ R.refl R (hv h m H)⟩
theorem og_rI0 {g : Int → Int → V} {f : Int → Int → Option PV} (hf : ∀ i j z, f i j = some z → ∀ h m H, RV ⟨K, t, h⟩ m H z (g i j)) : OpG K t (rI0 g) (f2I f) := by
  intro h m st H x y u v z Q R rx ry e q
  obtain ⟨i, j, rfl, rfl, e⟩ := f2I_inv e
  exact ⟨i, j, rx.int_inv, ry.int_inv, q m H _ R.refl R (hf i j z e h m H)⟩
theorem og_sub : OpG K t (rI0 fun i j => .int (i - j)) fSub := og_rI0 fun i j z e h m H => by cases e; exact .int _
theorem og_mulI : OpG K t (rI CMul fun i j => .int (i * j)) fMulI := og_rI fun i j z e => by
  split at e
  · rename_i c; cases e; exact ⟨c, fun h m H => .int _⟩
  · cases e
theorem log2_64 {j : Int} (h0 : 0 < j) (h : j < 2 ^ 64) : j.natAbs.log2 < 9000 := by
  have h1 : j.natAbs < 2 ^ 64 := by omega
  have h2 : j.natAbs ≠ 0 := by omega
  have := (Nat.log2_lt h2).mpr h1
  omega
theorem og_div : OpG K t (rI CDivW fun i j => .int (i / j)) fDiv := og_rI fun i j z e => by
  split at e
  · rename_i c; cases e; exact ⟨⟨c.1, log2_64 c.1 c.2⟩, fun h m H => .int _⟩
  · cases e
theorem og_mod : OpG K t (rI (fun _ j => 0 < j) fun i j => .int (i % j)) fMod := og_rI fun i j z e => by
  split at e
  · rename_i c; cases e; exact ⟨c, fun h m H => .int _⟩
  · cases e
theorem og_pow : OpG K t (rI CPow fun i j => .int (i ^ j.toNat)) fPow := og_rI fun i j z e => by
  split at e
  · rename_i c; cases e; exact ⟨c, fun h m H => .int _⟩
  · cases e
theorem og_lt : OpG K t (rI0 fun i j => .bl (decide (i < j))) fLt := og_rI0 fun i j z e h m H => by cases e; exact .bl _
theorem og_le : OpG K t (rI0 fun i j => .bl (decide (i ≤ j))) fLe := og_rI0 fun i j z e h m H => by cases e; exact .bl _
theorem og_gt : OpG K t (rI0 fun i j => .bl (decide (j < i))) fGt := og_rI0 fun i j z e h m H => by cases e; exact .bl _
theorem og_ge : OpG K t (rI0 fun i j => .bl (decide (j ≤ i))) fGe := og_rI0 fun i j z e h m H => by cases e; exact .bl _
theorem og_xor : OpG K t (rI0 fun i j => .int (Builtin.bitXor i j)) fXor := og_rI0 fun i j z e h m H => by cases e; exact .int _
theorem og_and : OpG K t (rI0 fun i j => .int (Builtin.bitAnd i j)) fAnd := og_rI0 fun i j z e h m H => by cases e; exact .int _
theorem og_or : OpG K t (rI0 fun i j => .int (Builtin.bitOr i j)) fOr := og_rI0 fun i j z e h m H => by cases e; exact .int _
abbrev fNeg : Sto → PV → Option PV := fun _ x => match x with
  | .int i => some (.int (-i))
  | _ => none
theorem ug_neg : UnG K t (rU fun i => .int (-i)) fNeg := by
  intro h m st H x u z Q R rx e q
  cases x with
  | int i => cases e; exact ⟨i, rx.int_inv, q m H _ R.refl R (.int _)⟩
  | _ => cases e
end
/-! ### sums of any kind -/
def fAdd : Sto → PV → PV → Option PV := fun st x y => match x, y with
  | .int i, .int j => some (.int (i + j))
  | .str a, .str b => if a.length + b.length ≤ sizeLine then some (.str (a ++ b)) else none
  | .tup xs, .tup ys => if xs.length + ys.length ≤ sizeLine then some (.tup (xs ++ ys)) else none
  | x, y => match listOf st x, listOf st y with
    | some xs, some ys => if xs.length + ys.length ≤ sizeLine then some (.lv (xs ++ ys)) else none
    | _, _ => none
def rAddS : R2 := fun x y H Q => ∃ i j, x = .str i ∧ y = .str j ∧ i.length + j.length ≤ sizeLine ∧ Q (.str (i ++ j)) H
def rAddA (K : PySem.W.Frag) : R2 := fun x y H Q => rI0 (fun i j => .int (i + j)) x y H Q ∨ rAddS x y H Q ∨ rCatA K x y H Q ∨ rCat x y H Q
theorem op_addA {X : Cx} : OpR X (binaryOp .Add) (rAddA X.K) := op_add.or (OpR.or (r := rAddS) op_add_str (op_catA.or op_cat))
section
variable {K : PySem.W.Frag} {t : Tb}
theorem og_add : OpG K t (rAddA K) fAdd := by
  intro h m st H x y u v z Q R rx ry e q
  unfold fAdd at e
  split at e
  · cases e
    exact .inl ⟨_, _, rx.int_inv, ry.int_inv, q m H _ R.refl R (.int _)⟩
  · split at e
    · rename_i c
      cases e
      exact .inr (.inl ⟨_, _, rx.str_inv, ry.str_inv, c, q m H _ R.refl R (.str _)⟩)
    · cases e
  · split at e
    · rename_i xs ys c
      cases e
      cases rx with
      | tup h1 q1 =>
        cases ry with
        | tup h2 q2 =>
          rename_i p vs p2 vs2
          refine .inr (.inr (.inl ⟨p, p2, vs, vs2, rfl, rfl, h1.sq, h2.sq, by rw [← q1.length, ← q2.length]; exact c, fun z => ?_, fun z1 z2 => ?_, fun z1 z2 p hp => ?_⟩))
          · exact q m H _ R.refl R (by rw [q1.nil_iff.mp z]; exact .tup h2 q2)
          · exact q m H _ R.refl R (by rw [q2.nil_iff.mp z2, List.append_nil]; exact .tup h1 q1)
          · exact q m _ _ (Ext.new R hp) (R.new hp) (.tup (.inl ⟨R.outh hp, .inl upd_same⟩) ((q1.append q2).mono (Ext.new R hp)))
    · cases e
  · split at e
    · rename_i xs ys e1 e2
      split at e
      · rename_i c
        cases e
        obtain ⟨p, vs, rfl, h1, q1⟩ := listOf_at R rx e1
        obtain ⟨p2, vs2, rfl, h2, q2⟩ := listOf_at R ry e2
        exact .inr (.inr (.inr ⟨p, p2, vs, vs2, rfl, rfl, h1, h2, by rw [← q1.length, ← q2.length]; exact c, fun p hp =>
          q m _ _ (Ext.new R hp) (R.new hp) (.lv (R.outh hp) upd_same ((q1.append q2).mono (Ext.new R hp)))⟩))
      · cases e
    · cases e
end
/-! ### equality -/
mutual
def dOf (lk : Nat → Option PyData) : PV → Option PyData
  | .non => some .none
  | .bl b => some (.bool b)
  | .int i => some (.int i)
  | .str x => some (.str x)
  | .tup xs => (dOfs lk xs).map .tuple
  | .lv xs => (dOfs lk xs).map .list
  | .fz xs => (dOfs lk xs).map .list
  | .ref i => lk i
  | .raw _ => none
def dOfs (lk : Nat → Option PyData) : List PV → Option (List PyData)
  | [] => some []
  | x :: xs => match dOf lk x, dOfs lk xs with
    | some d, some ds => some (d :: ds)
    | _, _ => none
end
def lkN : Nat → Sto → Nat → Option PyData
  | 0, _, _ => none
  | n + 1, st, i => match st[i]? with
    | some (.lst xs) => (dOfs (lkN n st) xs).map .list
    | _ => none
def toD (st : Sto) (x : PV) : Option PyData := dOf (lkN 4 st) x
mutual
theorem dOf_ok {g : Gd} {m : List Addr} {H : Hp} {lk : Nat → Option PyData} (hl : ∀ i d a, lk i = some d → m[i]? = some a → Dp g.K H (.ref a) d) : ∀ {x : PV} {v : V} {d : PyData}, RV g m H x v → dOf lk x = some d → Dp g.K H v d
  | _, _, _, .non, e => by cases e; exact .non
  | _, _, _, .bl b, e => by cases e; exact .bl b
  | _, _, _, .int i, e => by cases e; exact .int i
  | _, _, _, .str x, e => by cases e; exact .str x
  | _, _, _, .tup (xs := xs) h r, e => by
    cases e1 : dOfs lk xs with
    | none => simp [dOf, e1] at e
    | some ds => simp [dOf, e1] at e; subst e; exact .tup h.sq (dOfs_ok hl r e1)
  | _, _, _, .lv (xs := xs) n h r, e => by
    cases e1 : dOfs lk xs with
    | none => simp [dOf, e1] at e
    | some ds => simp [dOf, e1] at e; subst e; exact .lst (SqL.of h) (dOfs_ok hl r e1)
  | _, _, _, .fz (xs := xs) h r, e => by
    cases e1 : dOfs lk xs with
    | none => simp [dOf, e1] at e
    | some ds => simp [dOf, e1] at e; subst e; exact .lst h.sq (dOfs_ok hl r e1)
  | _, _, _, .ref h, e => hl _ _ _ e h
  | _, _, _, .raw v, e => by cases e
theorem dOfs_ok {g : Gd} {m : List Addr} {H : Hp} {lk : Nat → Option PyData} (hl : ∀ i d a, lk i = some d → m[i]? = some a → Dp g.K H (.ref a) d) : ∀ {xs : List PV} {vs : List V} {ds : List PyData}, RVs g m H xs vs → dOfs lk xs = some ds → DpAll g.K H vs ds
  | _, _, _, .nil, e => by cases e; exact .nil
  | _, _, _, .cons (x := x) (xs := xs) h r, e => by
    cases e1 : dOf lk x with
    | none => simp [dOfs, e1] at e
    | some d =>
      cases e2 : dOfs lk xs with
      | none => simp [dOfs, e1, e2] at e
      | some ds => simp [dOfs, e1, e2] at e; subst e; exact .cons (dOf_ok hl h e1) (dOfs_ok hl r e2)
end
theorem lkN_ok {g : Gd} {m : List Addr} {st : Sto} {H : Hp} (R : Rep g m st H) : ∀ (n i : Nat) (d : PyData) (a : Addr), lkN n st i = some d → m[i]? = some a → Dp g.K H (.ref a) d
  | 0, _, _, _, e, _ => by cases e
  | n + 1, i, d, a, e, ha => by
    simp only [lkN] at e
    split at e
    · rename_i xs hx
      cases e1 : dOfs (lkN n st) xs with
      | none => rw [e1] at e; cases e
      | some ds =>
        rw [e1] at e
        cases e
        obtain ⟨o, h1, vs, h2, q⟩ := R.at_ i a _ ha hx
        exact .lst (SqL.of (by rw [h1, h2])) (dOfs_ok (lkN_ok R n) q e1)
    · cases e
theorem toD_ok {g : Gd} {m : List Addr} {st : Sto} {H : Hp} (R : Rep g m st H) {x : PV} {v : V} {d : PyData} (r : RV g m H x v) (e : toD st x = some d) : Dp g.K H v d := dOf_ok (lkN_ok R 4) r e
/-- the answer of == -/
def eqB (st : Sto) (x y : PV) : Option Bool := match x, y with
  | .int i, .int j => some (decide (i = j))
  | .str a, .str b => some (decide (a = b))
  | .bl a, .bl b => some (decide (a = b))
  | .non, .non => some true
  | x, y => match toD st x, toD st y with
    | some d, some e => if SeqAt.shaped d = true ∧ SeqAt.shaped e = true then some (PyData.eqv d e) else none
    | _, _ => none
def fEq : Sto → PV → PV → Option PV := fun st x y => (eqB st x y).map .bl
def fNe : Sto → PV → PV → Option PV := fun st x y => (eqB st x y).map fun b => .bl (!b)
def rEqA (K : PySem.W.Frag) : R2 := fun x y H Q => rEq x y H Q ∨ rEqD K x y H Q
def rNeA (K : PySem.W.Frag) : R2 := fun x y H Q => rNe x y H Q ∨ rNeD K x y H Q
theorem op_eqA {X : Cx} (hu : X.A.units + 64 < cLine) : OpR X (compareOp .Eq) (rEqA X.K) := op_eq.or (op_eqD hu)
theorem op_neA {X : Cx} (hu : X.A.units + 64 < cLine) : OpR X (compareOp .NotEq) (rNeA X.K) := op_ne.or (op_neD hu)
section
variable {K : PySem.W.Frag} {t : Tb}
theorem eqB_ok {h : List Addr} {m : List Addr} {st : Sto} {H : Hp} {x y : PV} {u v : V} {b : Bool} (R : Rep ⟨K, t, h⟩ m st H) (rx : RV ⟨K, t, h⟩ m H x u) (ry : RV ⟨K, t, h⟩ m H y v) (e : eqB st x y = some b) :
    (scal u v = true ∧ b = decide (u = v)) ∨ ∃ d e, Dp K H u d ∧ Dp K H v e ∧ SeqAt.shaped d = true ∧ SeqAt.shaped e = true ∧ b = PyData.eqv d e := by
  unfold eqB at e
  split at e
  · cases e
    rw [rx.int_inv, ry.int_inv]
    exact .inl ⟨rfl, by simp⟩
  · cases e
    rw [rx.str_inv, ry.str_inv]
    exact .inl ⟨rfl, by simp⟩
  · cases e
    rw [rx.bl_inv, ry.bl_inv]
    exact .inl ⟨rfl, by simp⟩
  · cases e
    cases rx
    cases ry
    exact .inl ⟨rfl, by simp⟩
  · split at e
    · rename_i d d' e1 e2
      split at e
      · rename_i c
        cases e
        exact .inr ⟨d, d', toD_ok R rx e1, toD_ok R ry e2, c.1, c.2, rfl⟩
      · cases e
    · cases e
theorem og_eq : OpG K t (rEqA K) fEq := by
  intro h m st H x y u v z Q R rx ry e q
  unfold fEq at e
  cases e1 : eqB st x y with
  | none => rw [e1] at e; cases e
  | some b =>
    rw [e1] at e
    cases e
    have q' := q m H _ R.refl R (.bl b)
    rcases eqB_ok R rx ry e1 with ⟨c, rfl⟩ | ⟨d, d', c1, c2, c3, c4, rfl⟩
    · exact .inl ⟨c, q'⟩
    · exact .inr ⟨d, d', c1, c2, c3, c4, q'⟩
theorem og_ne : OpG K t (rNeA K) fNe := by
  intro h m st H x y u v z Q R rx ry e q
  unfold fNe at e
  cases e1 : eqB st x y with
  | none => rw [e1] at e; cases e
  | some b =>
    rw [e1] at e
    cases e
    have q' := q m H _ R.refl R (.bl (!b))
    rcases eqB_ok R rx ry e1 with ⟨c, rfl⟩ | ⟨d, d', c1, c2, c3, c4, rfl⟩
    · exact .inl ⟨c, q'⟩
    · exact .inr ⟨d, d', c1, c2, c3, c4, q'⟩
/-- is, is not: of None, of bools -/
def isB (x y : PV) : Option Bool := match y with
  | .non => match x with
    | .non => some true
    | _ => some false
  | .bl b => match x with
    | .bl a => some (decide (a = b))
    | _ => none
  | _ => none
def fIs : Sto → PV → PV → Option PV := fun _ x y => (isB x y).map .bl
def fIsNot : Sto → PV → PV → Option PV := fun _ x y => (isB x y).map fun b => .bl (!b)
def rIsA : R2 := fun x y H Q => (y = .non ∧ Q (.bl (decide (x = .non))) H) ∨ rIsB x y H Q
def rIsNotA : R2 := fun x y H Q => (y = .non ∧ Q (.bl (!decide (x = .non))) H) ∨ rNotB x y H Q
theorem op_isA {X : Cx} : OpR X (compareOp .Is) rIsA := op_isN.or op_isBl
theorem op_isNotA {X : Cx} : OpR X (compareOp .IsNot) rIsNotA := op_notN.or op_notBl
theorem isB_ok {h : List Addr} {m : List Addr} {H : Hp} {x y : PV} {u v : V} {b : Bool} (rx : RV ⟨K, t, h⟩ m H x u) (ry : RV ⟨K, t, h⟩ m H y v) (hr : ∀ w, x ≠ .raw w) (e : isB x y = some b) : (v = .non ∧ b = decide (u = .non)) ∨ ∃ a a' : Bool, u = .bl a ∧ v = .bl a' ∧ b = decide (a = a') := by
  cases ry with
  | non =>
    refine .inl ⟨rfl, ?_⟩
    cases rx with
    | raw => exact absurd rfl (hr _)
    | non => cases e; rfl
    | _ => cases e; symm; exact decide_eq_false (fun z => nomatch z)
  | bl b =>
    cases rx with
    | bl a => cases e; exact .inr ⟨a, b, rfl, rfl, rfl⟩
    | _ => cases e
  | _ => cases e
def noRaw : PV → Bool
  | .raw _ => false
  | _ => true
def fIsC : Sto → PV → PV → Option PV := fun st x y => if noRaw x = true then fIs st x y else none
def fIsNotC : Sto → PV → PV → Option PV := fun st x y => if noRaw x = true then fIsNot st x y else none
theorem noRaw_ne {x : PV} (h : noRaw x = true) : ∀ w, x ≠ .raw w := fun w z => by rw [z] at h; cases h
theorem og_is : OpG K t rIsA fIsC := by
  intro h m st H x y u v z Q R rx ry e q
  unfold fIsC at e
  split at e
  · rename_i nr
    unfold fIs at e
    cases e1 : isB x y with
    | none => rw [e1] at e; cases e
    | some b =>
      rw [e1] at e
      cases e
      have q' := q m H _ R.refl R (.bl b)
      rcases isB_ok rx ry (noRaw_ne nr) e1 with ⟨c, rfl⟩ | ⟨a, a', c1, c2, rfl⟩
      · exact .inl ⟨c, q'⟩
      · exact .inr ⟨a, a', c1, c2, q'⟩
  · cases e
theorem og_isNot : OpG K t rIsNotA fIsNotC := by
  intro h m st H x y u v z Q R rx ry e q
  unfold fIsNotC at e
  split at e
  · rename_i nr
    unfold fIsNot at e
    cases e1 : isB x y with
    | none => rw [e1] at e; cases e
    | some b =>
      rw [e1] at e
      cases e
      have q' := q m H _ R.refl R (.bl (!b))
      rcases isB_ok rx ry (noRaw_ne nr) e1 with ⟨c, rfl⟩ | ⟨a, a', c1, c2, rfl⟩
      · exact .inl ⟨c, q'⟩
      · exact .inr ⟨a, a', c1, c2, q'⟩
  · cases e
end
end Fw
set_option Elab.async false
set_option linter.all false
set_option maxRecDepth 100000
set_option maxHeartbeats 4000000
namespace Fw
open PySem PySem.Spec PyProof.Rows L2
/-! ### statements -/
@[simp] def Rs.toS {α : Type} (r : Rho) : Rs α → (α → Sto → Sr) → Sr
  | .ok a st, k => k a st
  | .exc c st, _ => .exc c r st
  | .bad, _ => .bad
def cSeq (a b : CS) : CS := fun r st => match a r st with
  | .nx r' st' => b r' st'
  | o => o
def cNext : CS := fun r st => .nx r st
def cBrk : CS := fun r st => .bk r st
def cCont : CS := fun r st => .ct r st
def cDrop (c : CE) : CS := fun r st => (c r st).toS r fun _ st1 => .nx r st1
def cRet (c : CE) : CS := fun r st => (c r st).toS r fun x st1 => .rt x st1
def cRetN : CS := fun _ st => .rt .non st
def cIfS (c : CT) (a b : CS) : CS := fun r st => (c r st).toS r fun x st1 => if x = true then a r st1 else b r st1
abbrev CG := PV → Rho → Sto → Rs Rho
abbrev CGs := List PV → Rho → Sto → Rs Rho
def cAsg (c : CE) (g : CG) : CS := fun r st => (c r st).toS r fun x st1 => (g x r st1).toS r fun r' st2 => .nx r' st2
def gName (i : Nat) : CG := fun x r st => .ok (r.set i (some x)) st
def gTup (n : Nat) (gs : CGs) : CG := fun x r st => match x with
  | .tup xs => if xs.length = n then gs xs r st else .bad
  | _ => .bad
def gNil : CGs := fun xs r st => match xs with
  | [] => .ok r st
  | _ => .bad
@[simp] def Rs.quiet {α : Type} : Rs α → Rs α
  | .exc _ _ => .bad
  | o => o
def gCons (g : CG) (gs : CGs) : CGs := fun xs r st => match xs with
  | x :: ys => (g x r st).bind fun r1 st1 => (gs ys r1 st1).quiet
  | _ => .bad
/-- o[i] = x -/
def gSub (f : Sto → PV → PV → PV → Option Sto) (co ci : CE) : CG := fun x r st => (co r st).bind fun o st1 => (ci r st1).bind fun i st2 => match f st2 o i x with
  | some st3 => .ok r st3
  | none => .bad
/-- o.f = x, the field number i of the class c -/
def fSetF (c i : Nat) (st : Sto) (o x : PV) : Option Sto := match o with
  | .ref k => match st[k]? with
    | some (.ins c' fs) => if c' = c ∧ i < fs.length then some (st.set k (.ins c (fs.set i (some x)))) else none
    | _ => none
  | _ => none
def fGetF (c i : Nat) : Sto → PV → Option PV := fun st o => match o with
  | .ref k => match st[k]? with
    | some (.ins c' fs) => if c' = c then (fs[i]?).join else none
    | _ => none
  | _ => none
def cSetF (c i : Nat) (co cv : CE) : CS := fun r st => (cv r st).toS r fun x st1 => (co r st1).toS r fun o st2 => match fSetF c i st2 o x with
  | some st3 => .nx r st3
  | none => .bad
/-- o.f op= x -/
def cAugF (f : Sto → PV → PV → Option PV) (c i : Nat) (co cv : CE) : CS := fun r st => (co r st).toS r fun o st1 => match fGetF c i st1 o with
  | some y => (cv r st1).toS r fun x st2 => match f st2 y x with
    | some z => match fSetF c i st2 o z with
      | some st3 => .nx r st3
      | none => .bad
    | none => .bad
  | none => .bad
/-- x op= e -/
def cAugN (f : Sto → PV → PV → Option PV) (i : Nat) (cv : CE) : CS := fun r st => match r[i]? with
  | some (some y) => (cv r st).toS r fun x st1 => match f st1 y x with
    | some z => .nx (r.set i (some z)) st1
    | none => .bad
  | _ => .bad
def cPar (i j : Nat) (ca : CA) : CS := fun r st => (ca r st).toS r fun xs st1 => match xs with
  | [x, y] => .nx ((r.set i (some x)).set j (some y)) st1
  | _ => .bad
def cPar3 (i j l : Nat) (ca : CA) : CS := fun r st => (ca r st).toS r fun xs st1 => match xs with
  | [x, y, z] => .nx (((r.set i (some x)).set j (some y)).set l (some z)) st1
  | _ => .bad
abbrev CI := Rho → Sto → Rs (List PV)
def cForGo (g : CG) (b : CS) : List PV → CS
  | [], r, st => .nx r st
  | x :: xs, r, st => (g x r st).toS r fun r1 st1 => match b r1 st1 with
    | .nx r2 st2 => cForGo g b xs r2 st2
    | .ct r2 st2 => cForGo g b xs r2 st2
    | .bk r2 st2 => .nx r2 st2
    | o => o
def cFor (ci : CI) (g : CG) (b : CS) : CS := fun r st => (ci r st).toS r fun xs st1 => cForGo g b xs r st1
def cWh (c : CT) (b : CS) : Nat → CS
  | 0, _, _ => .bad
  | n + 1, r, st => (c r st).toS r fun x st1 => if x = true then (match b r st1 with
    | .nx r2 st2 => cWh c b n r2 st2
    | .ct r2 st2 => cWh c b n r2 st2
    | .bk r2 st2 => .nx r2 st2
    | o => o) else .nx r st1

abbrev rR (g : Gd) : List Addr → Hp → Rho → L2.St → Prop := fun m H r s => REnv g m H r s
def tG (K : PySem.W.Frag) (t : Tb) (W : WX) (ct : CG) : TG := fun v σ H Q => ∃ h m st r x, Rep ⟨K, t, h⟩ m st H ∧ REnv ⟨K, t, h⟩ m H r σ ∧ RV ⟨K, t, h⟩ m H x v ∧ EO ⟨K, t, h⟩ (rR ⟨K, t, h⟩) W σ m H Q (ct x r st)
def tGs (K : PySem.W.Frag) (t : Tb) (W : WX) (ct : CGs) : TGs := fun v σ H Q => ∃ h m st r x, Rep ⟨K, t, h⟩ m st H ∧ REnv ⟨K, t, h⟩ m H r σ ∧ RVs ⟨K, t, h⟩ m H x v ∧ EO ⟨K, t, h⟩ (rR ⟨K, t, h⟩) W σ m H Q (ct x r st)
structure SG (t : Tb) (X : Cx) (W : WX) (e : Expr) (c : CG) : Prop where
  pg : PG X e (tG X.K t W c)
structure SGs (t : Tb) (X : Cx) (W : WX) (e : List Expr) (c : CGs) : Prop where
  pg : PGs X e (tGs X.K t W c)
theorem _root_.L2.PG.imp {X : Cx} {e : Expr} {t t' : TG} (h : PG X e t) (i : ∀ v σ H Q, t' v σ H Q → t v σ H Q) : PG X e t' := ⟨fun pins s σ H v u Q I r q => h.run pins s σ H v u Q I r (i v σ H Q q)⟩
theorem _root_.L2.PGs.imp {X : Cx} {e : List Expr} {t t' : TGs} (h : PGs X e t) (i : ∀ v σ H Q, t' v σ H Q → t v σ H Q) : PGs X e t' := ⟨fun pins s σ H v u Q I r q => h.run pins s σ H v u Q I r (i v σ H Q q)⟩
theorem _root_.L2.PI.imp {X : Cx} {tg e : Expr} {t t' : TI} (h : PI X tg e t) (i : ∀ σ H Q, t' σ H Q → t σ H Q) : PI X tg e t' := ⟨fun pins s σ H Q I q => h.run pins s σ H Q I (i σ H Q q)⟩
theorem _root_.L2.PO.imp {X : Cx} {e : Option Expr} {t t' : TO} (h : PO X e t) (i : ∀ σ H Q, t' σ H Q → t σ H Q) : PO X e t' := ⟨fun pins s σ H Q I q => h.run pins s σ H Q I (i σ H Q q)⟩
/-- from a statement's result to an expression's -/
theorem SOk.bind {α β : Type} {g : Gd} {rel : List Addr → Hp → α → β → Prop} {W : WX} {D : Ends} {σ : L2.St} {m : List Addr} {H : Hp} {R : β → Hp → Prop} {r : Rho} {k : α → Sto → Sr} (he : REnv g m H r σ) : ∀ {o : Rs α},
    SOk g W D m H (o.toS r k) → (∀ x st m' H' v, Ext m H m' H' → Rep g m' st H' → rel m' H' x v → SOk g W D m' H' (k x st) → R v H') → EO g rel W σ m H R o
  | .ok x st, h, f => fun m' H' v e r q => f x st m' H' v e r q (h.ext e)
  | .exc _ _, h, _ => fun m' H' C d e r q => h m' H' σ C d e r (he.mono e) q
  | .bad, h, _ => h
theorem EO.quiet {α β : Type} {g : Gd} {rel : List Addr → Hp → α → β → Prop} {W W' : WX} {σ σ' : L2.St} {m : List Addr} {H : Hp} {Q : β → Hp → Prop} : ∀ {o : Rs α}, EO g rel W σ m H Q o.quiet → EO g rel W' σ' m H Q o
  | .ok _ _, h => h
  | .exc _ _, h => h.elim
  | .bad, h => h
section
variable {t : Tb} {X : Cx} {W : WX} {pos pos' : Pos} {e o i0 : Expr} {ce co ci : CE} {s : Stmt} {rest a b : List Stmt} {c1 c2 : CS}
theorem sb_nil : SB t X W [] cNext := ⟨pss_nil.imp fun D σ H ⟨h, m, st, r, hr, he, hq⟩ => hq m H σ hr.refl hr he⟩
theorem sb_one (h : SS t X W s c1) : SB t X W [s] c1 := ⟨pss_one h.ps⟩
theorem sb_cons (h : SS t X W s c1) (h2 : SB t X W rest c2) : SB t X W (s :: rest) (cSeq c1 c2) :=
  ⟨(pss_cons h.ps h2.ps).imp fun D σ H ⟨h, m, st, r, hr, he, hq⟩ => ⟨h, m, st, r, hr, he, by
    unfold cSeq at hq
    revert hq
    cases c1 r st with
    | nx r' st' => exact fun hq m' H' σ' e1 r1 q1 => ⟨h, m', st', r', r1, q1, hq.ext e1⟩
    | _ => exact fun hq => hq⟩⟩
theorem ss_pass : SS t X W (.Pass pos) cNext := ⟨ps_pass.imp fun D σ H ⟨h, m, st, r, hr, he, hq⟩ => hq m H σ hr.refl hr he⟩
theorem ss_break : SS t X W (.Break pos) cBrk := ⟨ps_break.imp fun D σ H ⟨h, m, st, r, hr, he, hq⟩ => hq m H σ hr.refl hr he⟩
theorem ss_continue : SS t X W (.Continue pos) cCont := ⟨ps_continue.imp fun D σ H ⟨h, m, st, r, hr, he, hq⟩ => hq m H σ hr.refl hr he⟩
theorem ss_expr (h : SE t X W e ce) (hs : swapsWith e none pos.line X.env = pure false := by rfl) : SS t X W (.Expr e pos) (cDrop ce) :=
  ⟨(ps_expr h.pe hs).imp fun D σ H ⟨h, m, st, r, hr, he, hq⟩ => ⟨h, m, st, r, hr, he, SOk.bind he hq fun x st1 m1 H1 v e1 r1 rx h1 => h1 m1 H1 σ r1.refl r1 (he.mono e1)⟩⟩
theorem ss_ret (h : SE t X W e ce) : SS t X W (.Return (some e) pos) (cRet ce) :=
  ⟨(ps_ret h.pe).imp fun D σ H ⟨h, m, st, r, hr, he, hq⟩ => ⟨h, m, st, r, hr, he, SOk.bind he hq fun x st1 m1 H1 v e1 r1 rx h1 => h1 m1 H1 v r1.refl r1 rx⟩⟩
theorem ss_retN : SS t X W (.Return none pos) cRetN := ⟨ps_retN.imp fun D σ H ⟨h, m, st, r, hr, he, hq⟩ => hq m H _ hr.refl hr .non⟩
theorem ss_if {cond : Expr} {cd : CT} (hc : ST t X W cond cd) (ha : SB t X W a c1) (hb : SB t X W b c2) : SS t X W (.If cond a b pos) (cIfS cd c1 c2) :=
  ⟨(ps_if hc.pt ha.ps hb.ps).imp fun D σ H ⟨h, m, st, r, hr, he, hq⟩ => ⟨h, m, st, r, hr, he, SOk.bind he hq fun x st1 m1 H1 v e1 r1 rx h1 => by
    cases rx
    cases x with
    | true => exact iteT ⟨h, m1, st1, r, r1, he.mono e1, h1⟩
    | false => exact iteF ⟨h, m1, st1, r, r1, he.mono e1, h1⟩⟩⟩
/-! ### targets -/
variable {tg : Expr} {es : List Expr} {cg : CG} {cgs : CGs} {n : Nat}
theorem sg_name (i : Nat) {x : Str} (hN : X.N.Nodup) (hi : X.N[i]? = some x := by rfl) (hx : Loc X.env.scope x := by first | exact Or.inl rfl | exact Or.inr rfl) (hf : X.fn x = true ∨ X.env.scope.names.lookup x = some .local := by first | exact .inl rfl | exact .inr rfl) : SG t X W (.Name x pos) (gName i) :=
  ⟨(pg_name hN hi hx hf).imp fun v σ H Q ⟨h, m, st, r, x, hr, he, rx, hq⟩ => hq m H _ hr.refl hr (he.set rx i)⟩
theorem sgs_nil : SGs t X W [] gNil := ⟨pgs_nil.imp fun v σ H Q ⟨h, m, st, r, x, hr, he, rx, hq⟩ => by
  cases rx with
  | nil => exact ⟨rfl, hq m H _ hr.refl hr he⟩
  | cons _ _ => exact hq.elim⟩
theorem sgs_cons (h1 : SG t X W e cg) (h2 : SGs t X W es cgs) (hs : (assignEach (e :: es) X.env).map (·.2) = assign e X.env :: (assignEach es X.env).map (·.2) := by rfl) : SGs t X W (e :: es) (gCons cg cgs) :=
  ⟨(pgs_cons h1.pg h2.pg hs).imp fun v σ H Q ⟨h, m, st, r, x, hr, he, rx, hq⟩ => by
    cases rx with
    | nil => exact hq.elim
    | cons q1 q2 =>
      exact ⟨_, _, rfl, h, m, st, r, _, hr, he, q1, EO.bind hq fun r1 st1 m1 H1 σ1 e1 R1 E1 h1 => ⟨h, m1, st1, r1, _, R1, E1, q2.mono e1, EO.quiet h1⟩⟩⟩
theorem sg_tup {k : Nat} (hc : X.calm = true) (h : SGs t X W es cgs) (hn : (assignEach es X.env).length = n := by rfl) (hst : (assignEach es X.env).findIdx? (·.1) = none := by rfl) : SG t X W (.Tuple es k pos) (Fw.gTup n cgs) :=
  ⟨(pg_tup hc h.pg hn hst).imp fun v σ H Q ⟨h, m, st, r, x, hr, he, rx, hq⟩ => by
    unfold Fw.gTup at hq
    split at hq
    · split at hq
      · rename_i xs hl
        cases rx with
        | tup h1 q1 => exact ⟨_, _, rfl, h1.sq, by rw [← q1.length, hl], h, m, st, r, xs, hr, he, q1, hq⟩
      · exact hq.elim
    · exact hq.elim⟩
/-- a store by a subscript -/
def StG (K : PySem.W.Frag) (t : Tb) (r : TSet) (f : Sto → PV → PV → PV → Option Sto) : Prop := ∀ h m st H o i x uo ui ux st' (Q : Hp → Prop), Rep ⟨K, t, h⟩ m st H → RV ⟨K, t, h⟩ m H o uo → RV ⟨K, t, h⟩ m H i ui → RV ⟨K, t, h⟩ m H x ux → f st o i x = some st' →
  (∀ m' H', Ext m H m' H' → Rep ⟨K, t, h⟩ m' st' H' → Q H') → r uo ui ux H Q
theorem sg_sub {ts : TSet} {f : Sto → PV → PV → PV → Option Sto} (hs : PSet X ts) (hf : StG X.K t ts f) (ho : SE t X W o co) (hi : SE t X W i0 ci)
    (ha : ∀ v, assign (.Subscript o i0 pos) X.env v = (do
      let ov ← holding [v] (eval o X.env)
      let iv ← holding [v, ov] (eval i0 X.env)
      standAt pos
      holding [v, ov, iv] (setItem ov iv v)
      release [v, ov, iv] []) := by intro _; rfl) : SG t X W (.Subscript o i0 pos) (Fw.gSub f co ci) :=
  ⟨(pg_sub ho.pe hi.pe hs ha).imp fun v σ H Q ⟨h, m, st, r, x, hr, he, rx, hq⟩ => ⟨h, m, st, r, hr, he, EO.bind hq fun y st1 m1 H1 u1 e1 r1 ry h1 => ⟨h, m1, st1, r, r1, he.mono e1, EO.bind h1 fun z st2 m2 H2 u2 e2 r2 rz h2 => by
    split at h2
    · rename_i st3 ef
      exact hf h m2 st2 H2 y z x u1 u2 v st3 _ r2 (ry.mono e2) rz ((rx.mono e1).mono e2) ef fun m3 H3 e3 r3 => h2 m3 H3 σ e3 r3 (((he.mono e1).mono e2).mono e3)
    · exact h2.elim⟩⟩⟩
theorem ss_asg (h : SE t X W e ce) (hg : SG t X W tg cg) (hs : swapsWithSole [tg] e pos.line X.env = pure false := by rfl) (hw : swappedStores [tg] e X.env = pure none := by rfl)
    (h1 : (assignEach [tg] X.env).map (·.2) = [assign tg X.env] := by rfl) : SS t X W (.Assign [tg] e pos) (cAsg ce cg) :=
  ⟨(ps_asg h.pe hg.pg hs hw h1).imp fun D σ H ⟨h, m, st, r, hr, he, hq⟩ => ⟨h, m, st, r, hr, he, SOk.bind he hq fun x st1 m1 H1 v e1 r1 rx h1 => ⟨h, m1, st1, r, x, r1, he.mono e1, rx,
    SOk.bind (he.mono e1) h1 fun r' st2 m2 H2 σ' e2 r2 q2 h2 => h2 m2 H2 σ' r2.refl r2 q2⟩⟩⟩
theorem ss_set (i : Nat) {x : Str} (hN : X.N.Nodup) (h : SE t X W e ce) (hi : X.N[i]? = some x := by rfl) (hx : Loc X.env.scope x := by first | exact Or.inl rfl | exact Or.inr rfl) (hs : swapsWith e (some (.Name x pos')) pos.line X.env = pure false := by rfl) (hf : X.fn x = true ∨ X.env.scope.names.lookup x = some .local := by first | exact .inl rfl | exact .inr rfl) :
    SS t X W (.Assign [.Name x pos'] e pos) (cAsg ce (Fw.gName i)) :=
  ⟨(ps_set hN hi hx h.pe hs hf).imp fun D σ H ⟨h, m, st, r, hr, he, hq⟩ => ⟨h, m, st, r, hr, he, SOk.bind he hq fun x st1 m1 H1 v e1 r1 rx h1 => h1 m1 H1 _ r1.refl r1 ((he.mono e1).set rx i)⟩⟩
variable {es2 : List Expr} {ca : CA}
theorem ss_par (i j : Nat) {x y : Str} {px py pt pt2 : Pos} {kt k2 : Nat} {e1 e2 : Expr} (hc : X.calm = true) (hN : X.N.Nodup) (ha : SA t X W [e1, e2] ca) (hi : X.N[i]? = some x := by rfl) (hj : X.N[j]? = some y := by rfl) (hij : i ≠ j := by decide)
    (hx : X.env.scope.names.lookup x = some .local := by rfl) (hy : X.env.scope.names.lookup y = some .local := by rfl)
    (hw : swappedStores [.Tuple [.Name x px, .Name y py] kt pt] (.Tuple [e1, e2] k2 pt2) X.env = pure (some [x, y]) := by rfl)
    (hs : swapsWithSole [.Tuple [.Name x px, .Name y py] kt pt] (.Tuple [e1, e2] k2 pt2) pos.line X.env = pure false := by rfl) :
    SS t X W (.Assign [.Tuple [.Name x px, .Name y py] kt pt] (.Tuple [e1, e2] k2 pt2) pos) (cPar i j ca) :=
  ⟨(ps_par hc hN hi hj hij hx hy ha.pa hw hs).imp fun D σ H ⟨h, m, st, r, hr, he, hq⟩ => ⟨h, m, st, r, hr, he, SOk.bind he hq fun xs st1 m1 H1 v e1 r1 rx h1 => by
    split at h1
    · cases rx with
      | cons q1 rr => cases rr with
        | cons q2 rr => cases rr with
          | nil => exact ⟨_, _, rfl, h1 m1 H1 _ r1.refl r1 (((he.mono e1).set q1 i).set q2 j)⟩
    · exact h1.elim⟩⟩
theorem ss_par3 (i j l : Nat) {x y z : Str} {px py pz pt pt2 : Pos} {kt k2 : Nat} {e1 e2 e3 : Expr} (hc : X.calm = true) (hN : X.N.Nodup) (ha : SA t X W [e1, e2, e3] ca) (hi : X.N[i]? = some x := by rfl) (hj : X.N[j]? = some y := by rfl) (hl : X.N[l]? = some z := by rfl) (hij : i ≠ j := by decide) (hil : i ≠ l := by decide) (hjl : j ≠ l := by decide)
    (hx : X.env.scope.names.lookup x = some .local := by rfl) (hy : X.env.scope.names.lookup y = some .local := by rfl) (hz : X.env.scope.names.lookup z = some .local := by rfl)
    (hw : swappedStores [.Tuple [.Name x px, .Name y py, .Name z pz] kt pt] (.Tuple [e1, e2, e3] k2 pt2) X.env = pure (some [x, y, z]) := by rfl)
    (hs : swapsWithSole [.Tuple [.Name x px, .Name y py, .Name z pz] kt pt] (.Tuple [e1, e2, e3] k2 pt2) pos.line X.env = pure false := by rfl) :
    SS t X W (.Assign [.Tuple [.Name x px, .Name y py, .Name z pz] kt pt] (.Tuple [e1, e2, e3] k2 pt2) pos) (cPar3 i j l ca) :=
  ⟨(ps_par3 hc hN hi hj hl hij hil hjl hx hy hz ha.pa hw hs).imp fun D σ H ⟨h, m, st, r, hr, he, hq⟩ => ⟨h, m, st, r, hr, he, SOk.bind he hq fun xs st1 m1 H1 v e1 r1 rx h1 => by
    split at h1
    · cases rx with
      | cons q1 rr => cases rr with
        | cons q2 rr => cases rr with
          | cons q3 rr => cases rr with
            | nil => exact ⟨_, _, _, rfl, h1 m1 H1 _ r1.refl r1 ((((he.mono e1).set q1 i).set q2 j).set q3 l)⟩
    · exact h1.elim⟩⟩
/-- x op= e -/
def IpG (K : PySem.W.Frag) (t : Tb) (r : TIp) (f : Sto → PV → PV → Option PV) : Prop := OpG K t r f
theorem ss_augN (i : Nat) {x : Str} {op : Operator} {ti : TIp} {f : Sto → PV → PV → Option PV} (hN : X.N.Nodup) (ho : PIp X op ti) (hf : OpG X.K t ti f) (h : SE t X W e ce) (hi : X.N[i]? = some x := by rfl) (hx : Loc X.env.scope x := by first | exact Or.inl rfl | exact Or.inr rfl)
    (hl : X.fn x = true ∨ X.env.scope.names.lookup x = some .local := by first | exact .inl rfl | exact .inr rfl) : SS t X W (.AugAssign (.Name x pos') op e pos) (cAugN f i ce) :=
  ⟨(ps_aug hN hi hx h.pe ho hl).imp fun D σ H ⟨h, m, st, r, hr, he, hq⟩ => by
    unfold cAugN at hq
    split at hq
    · rename_i y hy
      obtain ⟨v, ev, rv⟩ := he.get hy
      refine ⟨v, ev, h, m, st, r, hr, he, SOk.bind he hq fun x st1 m1 H1 u e1 r1 rx h1 => ?_⟩
      split at h1
      · rename_i z ez
        exact hf h m1 st1 H1 y x v u z _ r1 (rv.mono e1) rx ez fun m2 H2 w e2 r2 rw2 => h1 m2 H2 _ e2 r2 (((he.mono e1).mono e2).set rw2 i)
      · exact h1.elim
    · exact hq.elim⟩
end
end Fw
set_option Elab.async false
set_option linter.all false
set_option maxRecDepth 100000
set_option maxHeartbeats 4000000
namespace Fw
open PySem PySem.Spec PyProof.Rows L2
/-! ### fields -/
theorem fs_len {ns : List Str} {fs : List (Str × V)} (nd : (fs.map (·.1)).Nodup) (sub : ∀ k ∈ fs.map (·.1), k ∈ ns) : fs.length ≤ ns.length := by
  have := List.Nodup.length_le_of_subset nd (fun k hk => sub k hk)
  simpa using this
theorem putF_keys {f : Str} {v : V} : ∀ {fs : List (Str × V)}, (fs.map (·.1)).Nodup → ((putF f v fs).map (·.1)).Nodup ∧ ∀ k, k ∈ (putF f v fs).map (·.1) → k = f ∨ k ∈ fs.map (·.1)
  | [], _ => by simp [putF]
  | (g, x) :: r, nd => by
    rw [List.map_cons, List.nodup_cons] at nd
    unfold putF
    split
    · rename_i e
      refine ⟨by rw [List.map_cons, List.nodup_cons]; exact nd, fun k hk => .inr hk⟩
    · rename_i ne
      obtain ⟨i1, i2⟩ := putF_keys (f := f) (v := v) nd.2
      refine ⟨?_, fun k hk => ?_⟩
      · rw [List.map_cons, List.nodup_cons]
        refine ⟨fun hk => ?_, i1⟩
        rcases i2 g hk with e | e
        · exact ne e
        · exact nd.1 e
      · rw [List.map_cons, List.mem_cons] at hk
        rcases hk with e | e
        · exact .inr (by rw [e]; exact List.mem_cons_self)
        · rcases i2 k e with e | e
          · exact .inl e
          · exact .inr (List.mem_cons_of_mem _ e)
theorem RFs.put {g : Gd} {m : List Addr} {H : Hp} {ns : List Str} {xs : List (Option PV)} {fs : List (Str × V)} (h : RFs g m H ns xs fs) {i : Nat} {f : Str} {x : PV} {v : V} (hn : ns[i]? = some f) (hd : ns.Nodup) (rx : RV g m H x v) : RFs g m H ns (xs.set i (some x)) (putF f v fs) := by
  obtain ⟨k1, k2⟩ := putF_keys (f := f) (v := v) h.nd
  refine ⟨k1, fun k hk => ?_, by simpa using h.len, fun j n hj => ?_⟩
  · rcases k2 k hk with e | e
    · rw [e]; exact List.mem_of_getElem? hn
    · exact h.sub k e
  · rw [lookup_putF]
    by_cases hji : j = i
    · subst hji
      rw [hn] at hj; cases hj
      exact .inl ⟨x, v, List.getElem?_set_self (by rw [h.len]; exact (List.getElem?_eq_some_iff.mp hn).1), if_pos rfl, rx⟩
    · have ne : n ≠ f := fun z => hji (nodup_ix hd hj (z ▸ hn))
      rw [List.getElem?_set_ne (Ne.symm hji), if_neg ne]
      exact h.at_ j n hj
theorem fSetF_inv {c i : Nat} {st st' : Sto} {o x : PV} (h : fSetF c i st o x = some st') : ∃ k fs, o = .ref k ∧ st[k]? = some (.ins c fs) ∧ i < fs.length ∧ st' = st.set k (.ins c (fs.set i (some x))) := by
  unfold fSetF at h
  split at h
  · split at h
    · split at h
      · rename_i k _ c' fs e hc
        obtain ⟨rfl, hi⟩ := hc
        cases h
        exact ⟨k, fs, rfl, e, hi, rfl⟩
      · cases h
    · cases h
  · cases h
theorem fGetF_inv {c i : Nat} {st : Sto} {o x : PV} (h : fGetF c i st o = some x) : ∃ k fs, o = .ref k ∧ st[k]? = some (.ins c fs) ∧ fs[i]? = some (some x) := by
  unfold fGetF at h
  split at h
  · split at h
    · split at h
      · rename_i k _ c' fs e hc
        subst hc
        refine ⟨k, fs, rfl, e, ?_⟩
        cases e2 : fs[i]? with
        | none => rw [e2] at h; cases h
        | some y => rw [e2] at h; cases y with
          | none => cases h
          | some z => cases h; rfl
      · cases h
    · cases h
  · cases h
section
variable {t : Tb} {X : Cx} {W : WX} {pos pos' tpos : Pos} {e o value : Expr} {ce co cv : CE} {C : Addr} {ns : List Str} {c i : Nat} {f : Str}
theorem se_fld (i : Nat) (hC : t.C[c]? = some (C, ns)) (hn : ns[i]? = some f) (cl : Cls X.K C) (na : NoAttr X.K C f) (he : SE t X W e ce) (hb : attributeBase e f X.env (eval e X.env) = eval e X.env := by rfl) : SE t X W (.Attribute e f pos) (cUn (fGetF c i) ce) :=
  ⟨(pe_fld he.pe hb).imp fun σ H Q ⟨h, m, st, r, hr, he, hq⟩ => ⟨h, m, st, r, hr, he, EO.bind hq fun x st1 m1 H1 u e1 r1 rx h1 => by
    obtain ⟨z, ez, hz⟩ := fin_op h1
    obtain ⟨k, fs, rfl, hk, hi⟩ := fGetF_inv ez
    obtain ⟨a, C', ns', dx, vs, rfl, hma, hHa, hC', rf⟩ := r1.ins hk rx
    have e2 := hC.symm.trans hC'
    cases e2
    rcases rf.at_ i f hn with ⟨y, v, q1, q2, q3⟩ | ⟨q1, _⟩
    · rw [hi] at q1
      cases q1
      exact ⟨a, C, dx, vs, v, rfl, hHa, cl, na, q2, hz m1 H1 v r1.refl r1 q3⟩
    · rw [hi] at q1
      cases q1⟩⟩
/-- the instance's field is written -/
theorem Rep.setF {g : Gd} {m : List Addr} {st st' : Sto} {H : Hp} {o x : PV} {u v : V} (r : Rep g m st H) (ro : RV g m H o u) (rx : RV g m H x v) (hC : g.t.C[c]? = some (C, ns)) (hn : ns[i]? = some f) (hd : ns.Nodup) (hs : fSetF c i st o x = some st') :
    ∃ a dx vs, u = .ref a ∧ H a = some (.ins C dx vs) ∧ vs.length ≤ ns.length ∧ Ext m H m (upd H a (.ins C dx (putF f v vs))) ∧ Rep g m st' (upd H a (.ins C dx (putF f v vs))) := by
  obtain ⟨k, fs, rfl, hk, hi, rfl⟩ := fSetF_inv hs
  obtain ⟨a, C', ns', dx, vs, rfl, hma, hHa, hC', rf⟩ := r.ins hk ro
  have e2 := hC.symm.trans hC'
  cases e2
  have E := Ext.set (o := .ins C dx (putF f v vs)) r hma
  exact ⟨a, dx, vs, rfl, hHa, fs_len rf.nd rf.sub, E, r.setCel hma hk ⟨C, ns, dx, _, hC, rfl, (rf.mono E).put hn hd (rx.mono E)⟩⟩
theorem ss_fld (i : Nat) (hC : t.C[c]? = some (C, ns)) (hn : ns[i]? = some f) (hd : ns.Nodup) (hl : ns.length < 1000) (cl : Cls X.K C) (na : NoAttr X.K C f) (ho : SE t X W o co) (hv : SE t X W value cv) (hs : swapsWith value (some (.Attribute o f pos')) pos.line X.env = pure false := by rfl) :
    SS t X W (.Assign [.Attribute o f pos'] value pos) (cSetF c i co cv) :=
  ⟨(ps_fld ho.pe hv.pe hs).imp fun D σ H ⟨h, m, st, r, hr, he, hq⟩ => ⟨h, m, st, r, hr, he, SOk.bind he hq fun x st1 m1 H1 v e1 r1 rx h1 => ⟨h, m1, st1, r, r1, he.mono e1, SOk.bind (he.mono e1) h1 fun y st2 m2 H2 u e2 r2 ry h2 => by
    split at h2
    · rename_i st3 ef
      obtain ⟨a, dx, vs, rfl, hHa, hlen, E, R⟩ := r2.setF ry (rx.mono e2) hC hn hd ef
      exact ⟨a, C, dx, vs, rfl, hHa, cl, na, by omega, h2 m2 _ σ E R (((he.mono e1).mono e2).mono E)⟩
    · exact h2.elim⟩⟩⟩
theorem ss_augF (i : Nat) {op : Operator} {rd : V → V → Hp → VK → Prop} {fo : Sto → PV → PV → Option PV} (hop : InOp X op rd) (hf : OpG X.K t rd fo) (hC : t.C[c]? = some (C, ns)) (hn : ns[i]? = some f) (hd : ns.Nodup) (hl : ns.length < 1000) (cl : Cls X.K C) (na : NoAttr X.K C f) (ho : SE t X W o co) (hv : SE t X W value cv) :
    SS t X W (.AugAssign (.Attribute o f tpos) op value pos) (cAugF fo c i co cv) :=
  ⟨(ps_fldaug ho.pe hv.pe hop).imp fun D σ H ⟨h, m, st, r, hr, he, hq⟩ => ⟨h, m, st, r, hr, he, SOk.bind he hq fun y st1 m1 H1 u e1 r1 ry h1 => by
    split at h1
    · rename_i z ez
      obtain ⟨k, fs, rfl, hk, hi⟩ := fGetF_inv ez
      obtain ⟨a, C', ns', dx, vs, rfl, hma, hHa, hC', rf⟩ := r1.ins hk ry
      have e2 := hC.symm.trans hC'
      cases e2
      rcases rf.at_ i f hn with ⟨y, v, q1, q2, q3⟩ | ⟨q1, _⟩
      · rw [hi] at q1
        cases q1
        refine ⟨a, C, dx, vs, v, rfl, hHa, cl, na, q2, h, m1, st1, r, r1, he.mono e1, SOk.bind (he.mono e1) h1 fun x st2 m2 H2 w e2 r2 rx h2 => ?_⟩
        split at h2
        · rename_i z2 ez2
          refine hf h m2 st2 H2 _ x v w z2 _ r2 (q3.mono e2) rx ez2 fun m3 H3 w3 e3 r3 rw3 => ?_
          split at h2
          · rename_i st3 ef
            obtain ⟨a', dx', vs', ea, hHa', hlen, E, R⟩ := r3.setF ((ry.mono e2).mono e3) rw3 hC hn hd ef
            cases ea
            exact ⟨dx', vs', hHa', by omega, h2 m3 _ σ (e3.trans E) R ((((he.mono e1).mono e2).mono e3).mono E)⟩
          · exact h2.elim
        · exact h2.elim
      · rw [hi] at q1
        cases q1
    · exact h1.elim⟩⟩
/-! ### for -/
/-- the walk J goes over the items xs -/
def ItOk (g : Gd) (J : It) (xs : List PV) (m0 : List Addr) (H0 : Hp) : Prop := ∀ (i : Nat) h m st H, HExt g.h h H0 → Ext m0 H0 m H → Rep ⟨g.K, g.t, h⟩ m st H →
  (∀ x, xs[i]? = some x → J.go i H ∧ ∀ v H', J.yld i H v H' → Ext m H m H' ∧ Rep ⟨g.K, g.t, h⟩ m st H' ∧ RV ⟨g.K, g.t, h⟩ m H' x v) ∧ (xs.length ≤ i → J.stop i H)
def rI_ (g : Gd) : List Addr → Hp → List PV → It → Prop := fun m H xs J => ItOk g J xs m H
def tI (K : PySem.W.Frag) (t : Tb) (W : WX) (ci : CI) : TI := fun σ H R => ∃ h m st r, Rep ⟨K, t, h⟩ m st H ∧ REnv ⟨K, t, h⟩ m H r σ ∧ EO ⟨K, t, h⟩ (rI_ ⟨K, t, h⟩) W σ m H R (ci r st)
structure SI (t : Tb) (X : Cx) (W : WX) (tg e : Expr) (c : CI) : Prop where
  pi : PI X tg e (tI X.K t W c)
variable {tg iter : Expr} {body : List Stmt} {ci : CI} {cg : CG} {cb : CS}
theorem drop_some {α : Type} {xs : List α} {i : Nat} {x : α} (h : xs[i]? = some x) : xs.drop i = x :: xs.drop (i + 1) := by
  obtain ⟨h1, h2⟩ := List.getElem?_eq_some_iff.mp h
  rw [List.drop_eq_getElem_cons h1, h2]
theorem ss_for (hp : PassesOwn (model X.prog X.w) X.A X.env X.xe) (hc : X.calm = true) (hi : SI t X W tg iter ci) (hg : SG t X W tg cg) (hb : SB t X W body cb) (hs : ∀ x, foldedSetIterable iter X.env x = pure x := by intro _; rfl) :
    SS t X W (.For tg iter body [] pos) (cFor ci cg cb) := by
  refine ⟨(ps_for hp hc hi.pi hg.pg hb.ps hs).imp fun D σ H ⟨h, m, st, r, hr, he, hq⟩ => ⟨h, m, st, r, hr, he, SOk.bind he hq fun xs st1 m1 H1 J e1 r1 hJ h1 => ?_⟩⟩
  refine ⟨fun i n σ H => n + i = xs.length ∧ ∃ m st r, Ext m1 H1 m H ∧ Rep (gd X t h) m st H ∧ REnv (gd X t h) m H r σ ∧ SOk (gd X t h) W D m H (cForGo cg cb (xs.drop i) r st), ⟨xs.length, by simp, m1, st1, r, r1.refl, r1, he.mono e1, h1⟩, ?_⟩
  rintro i n σ H ⟨hn, m, st, r, E, R, V, K⟩
  obtain ⟨g1, g2⟩ := hJ i h m st H .refl E R
  by_cases hlt : i < xs.length
  · have hx := List.getElem?_eq_getElem hlt
    obtain ⟨go, yl⟩ := g1 _ hx
    rw [drop_some hx] at K
    refine .inr ⟨go, fun σ' H' => (n - 1) + (i + 1) = xs.length ∧ ∃ m st r, Ext m1 H1 m H' ∧ Rep (gd X t h) m st H' ∧ REnv (gd X t h) m H' r σ' ∧ SOk (gd X t h) W D m H' (cForGo cg cb (xs.drop (i + 1)) r st), fun σ' H' q => ⟨n - 1, by omega, q⟩, fun v H' hy => ?_⟩
    obtain ⟨E1, R1, rv⟩ := yl v H' hy
    refine ⟨h, m, st, r, _, R1, V.mono E1, rv, SOk.bind (V.mono E1) (K.ext E1) fun r1' st2 m2 H2 σ2 e2 r2 q2 h2 => ⟨h, m2, st2, r1', r2, q2, ?_⟩⟩
    have E2 := (E.trans E1).trans e2
    revert h2
    cases cb r1' st2 with
    | nx r3 st3 => exact fun h2 m' H' σ' e3 r3 q3 => ⟨by omega, m', st3, _, E2.trans e3, r3, q3, h2.ext e3⟩
    | ct r3 st3 => exact fun h2 m' H' σ' e3 r3 q3 => ⟨by omega, m', st3, _, E2.trans e3, r3, q3, h2.ext e3⟩
    | bk r3 st3 => exact fun h2 => h2
    | rt v3 st3 => exact fun h2 => h2
    | exc c3 r3 st3 => exact fun h2 => h2
    | bad => exact fun h2 => h2
  · rw [List.drop_eq_nil_of_le (by omega)] at K
    exact .inl ⟨g2 (by omega), K m H σ R.refl R V⟩
/-! ### what is walked -/
/-- an expression whose value is a tuple, or a list that nobody writes -/
def iSeq (c : CE) : CI := fun r st => (c r st).bind fun x st1 => match x with
  | .tup xs => .ok xs st1
  | _ => .bad
def iLv (c : CE) : CI := fun r st => (c r st).bind fun x st1 => match x with
  | .lv xs => .ok xs st1
  | .fz xs => .ok xs st1
  | _ => .bad
theorem RVs.get' {g : Gd} {m : List Addr} {H : Hp} {xs : List PV} {vs : List V} {i : Nat} {x : PV} {v : V} (r : RVs g m H xs vs) (h : xs[i]? = some x) (h' : vs[i]? = some v) : RV g m H x v := by
  obtain ⟨w, e, q⟩ := r.get h
  rw [h'] at e; cases e; exact q
theorem si_tup {l : Expr} {cl : CE} (hl : SE t X W l cl) : SI t X W tg l (iSeq cl) :=
  ⟨(pi_tup hl.pe).imp fun σ H R ⟨h, m, st, r, hr, he, hq⟩ => ⟨h, m, st, r, hr, he, EO.bind hq fun x st1 m1 H1 u e1 r1 rx h1 => by
    split at h1
    · cases rx with
      | tup hp q =>
        refine ⟨_, rfl, ⟨_, hp.sq⟩, h1 m1 H1 _ r1.refl r1 fun i h2 m2 st2 H2 X2 E2 R2 => ⟨fun x hx => ?_, fun hi => ⟨_, (hp.mono E2).sq, by rw [← q.length]; exact hi⟩⟩⟩
        obtain ⟨v, hv, _⟩ := q.get hx
        refine ⟨⟨_, v, (hp.mono E2).sq, hv⟩, fun w H' ⟨e, y⟩ => ?_⟩
        subst e
        exact ⟨R2.refl, R2, (q.monoH E2 X2).get' hx (y _ (hp.mono E2).sq)⟩
    · exact h1.elim⟩⟩
theorem si_lv {l : Expr} {cl : CE} (hl : SE t X W l cl) : SI t X W tg l (iLv cl) :=
  ⟨(pi_list hl.pe).imp fun σ H R ⟨h, m, st, r, hr, he, hq⟩ => ⟨h, m, st, r, hr, he, EO.bind hq fun x st1 m1 H1 u e1 r1 rx h1 => by
    have key : ∀ (xs : List PV) (p : Addr) (vs : List V), (∀ m2 H2, Ext m1 H1 m2 H2 → SqL X.K H2 p vs) → RVs (gd X t h) m1 H1 xs vs → ItOk (gd X t h) (Itl X.K p) xs m1 H1 := fun xs p vs hp q i h2 m2 st2 H2 X2 E2 R2 => by
      refine ⟨fun x hx => ?_, fun hi => ⟨_, hp _ _ E2, by rw [← q.length]; exact hi⟩⟩
      obtain ⟨v, hv, _⟩ := q.get hx
      refine ⟨⟨_, v, hp _ _ E2, hv⟩, fun w H' ⟨e, y⟩ => ?_⟩
      subst e
      exact ⟨R2.refl, R2, (q.monoH E2 X2).get' hx (y _ (hp _ _ E2))⟩
    split at h1
    · cases rx with
      | lv n hp q => exact ⟨_, rfl, ⟨_, SqL.of hp⟩, h1 m1 H1 _ r1.refl r1 (key _ _ _ (fun m2 H2 E2 => SqL.of (E2.keep _ _ hp n.1 (fun _ z => nomatch z))) q)⟩
    · cases rx with
      | fz hp q => exact ⟨_, rfl, ⟨_, hp.sq⟩, h1 m1 H1 _ r1.refl r1 (key _ _ _ (fun m2 H2 E2 => (hp.mono E2).sq) q)⟩
    · exact h1.elim⟩⟩
def intsR (lo : Int) (n : Nat) : List PV := (List.range n).map fun i => .int (lo + (i : Nat))
theorem ints_get {lo : Int} {n i : Nat} : (intsR lo n)[i]? = if i < n then some (.int (lo + (i : Nat))) else none := by
  unfold intsR
  rw [List.getElem?_map]
  by_cases h : i < n
  · rw [if_pos h, List.getElem?_range h]; rfl
  · rw [if_neg h, List.getElem?_eq_none (by simpa using h)]; rfl
theorem ints_len {lo : Int} {n : Nat} : (intsR lo n).length = n := by simp [intsR]
def small62 (i : Int) : Prop := -(2 ^ 62) ≤ i ∧ i < 2 ^ 62
instance (i : Int) : Decidable (small62 i) := inferInstanceAs (Decidable (_ ∧ _))
def iRange1 (c : CA) : CI := fun r st => (c r st).bind fun xs st1 => match xs with
  | [.int j] => if small62 j then .ok (intsR 0 j.toNat) st1 else .bad
  | _ => .bad
def iRange2 (c : CA) : CI := fun r st => (c r st).bind fun xs st1 => match xs with
  | [.int i, .int j] => if small62 i ∧ small62 j then .ok (intsR i (j - i).toNat) st1 else .bad
  | _ => .bad
theorem range_ok {g : Gd} {lo : Int} {n : Nat} {m : List Addr} {H : Hp} : ItOk g (Itr lo n) (intsR lo n) m H := fun i h2 m2 st2 H2 X2 E2 R2 => by
  refine ⟨fun x hx => ?_, fun hi => by rw [ints_len] at hi; exact hi⟩
  rw [ints_get] at hx
  split at hx
  · rename_i hlt
    cases hx
    refine ⟨hlt, fun w H' ⟨e, y⟩ => ?_⟩
    subst e y
    exact ⟨R2.refl, R2, .int _⟩
  · cases hx
variable {a b : Expr} {ca : CA} {p : Pos}
theorem si_range1 (hg : Gl X "range") (hm : X.mg "range" = none) (ha : SA t X W [a] ca) (hs : starEach [a] X.env = [(false, eval a X.env)] := by rfl) : SI t X W tg (.Call (.Name "range" p) [a] [] pos) (iRange1 ca) :=
  ⟨(pi_range1 hg hm ha.pa hs).imp fun σ H R ⟨h, m, st, r, hr, he, hq⟩ => ⟨h, m, st, r, hr, he, EO.bind hq fun xs st1 m1 H1 us e1 r1 rx h1 => by
    split at h1
    · split at h1
      · rename_i j hj
        cases rx with
        | cons q rr => cases rr with
          | nil =>
            obtain rfl := q.int_inv
            exact ⟨j, rfl, hj.1, hj.2, h1 m1 H1 _ r1.refl r1 range_ok⟩
      · exact h1.elim
    · exact h1.elim⟩⟩
theorem si_range2 (hg : Gl X "range") (hm : X.mg "range" = none) (ha : SA t X W [a, b] ca) (hs : starEach [a, b] X.env = [(false, eval a X.env), (false, eval b X.env)] := by rfl) (hs2 : starEach [b] X.env = [(false, eval b X.env)] := by rfl) : SI t X W tg (.Call (.Name "range" p) [a, b] [] pos) (iRange2 ca) :=
  ⟨(pi_range2 hg hm ha.pa hs hs2).imp fun σ H R ⟨h, m, st, r, hr, he, hq⟩ => ⟨h, m, st, r, hr, he, EO.bind hq fun xs st1 m1 H1 us e1 r1 rx h1 => by
    split at h1
    · split at h1
      · rename_i i j hj
        cases rx with
        | cons q rr => cases rr with
          | cons q2 rr => cases rr with
            | nil =>
              obtain rfl := q.int_inv
              obtain rfl := q2.int_inv
              exact ⟨i, j, rfl, ⟨hj.1.1, hj.1.2, hj.2.1, hj.2.2⟩, h1 m1 H1 _ r1.refl r1 range_ok⟩
      · exact h1.elim
    · exact h1.elim⟩⟩
/-! ### while -/
variable {cond : Expr} {cd : CT}
theorem ss_while (fuel : Nat) (hp : PassesOwn (model X.prog X.w) X.A X.env X.xe) (hc : ST t X W cond cd) (hb : SB t X W body cb) : SS t X W (.While cond body [] pos) (cWh cd cb fuel) := by
  refine ⟨(ps_while hp hc.pt hb.ps).imp fun D σ H ⟨h, m, st, r, hr, he, hq⟩ => ?_⟩
  refine ⟨fun n σ H => ∃ m st r, Rep (gd X t h) m st H ∧ REnv (gd X t h) m H r σ ∧ SOk (gd X t h) W D m H (cWh cd cb n r st), ⟨fuel, m, st, r, hr, he, hq⟩, ?_⟩
  rintro n σ H ⟨m, st, r, R, V, K⟩
  cases n with
  | zero => exact K.elim
  | succ n =>
    refine ⟨h, m, st, r, R, V, SOk.bind V K fun x st1 m1 H1 v e1 r1 rx h1 => ?_⟩
    cases rx
    cases x with
    | false => exact iteF (h1 m1 H1 σ r1.refl r1 (V.mono e1))
    | true =>
      refine iteT ⟨fun σ' H' => ∃ m st r, Rep (gd X t h) m st H' ∧ REnv (gd X t h) m H' r σ' ∧ SOk (gd X t h) W D m H' (cWh cd cb n r st), fun σ' H' q => ⟨n, Nat.lt_succ_self n, q⟩, h, m1, st1, r, r1, V.mono e1, ?_⟩
      revert h1
      rw [if_pos rfl]
      cases cb r st1 with
      | nx r3 st3 => exact fun h2 m' H' σ' e3 r3 q3 => ⟨m', st3, _, r3, q3, h2.ext e3⟩
      | ct r3 st3 => exact fun h2 m' H' σ' e3 r3 q3 => ⟨m', st3, _, r3, q3, h2.ext e3⟩
      | bk r3 st3 => exact fun h2 => h2
      | rt v3 st3 => exact fun h2 => h2
      | exc c3 r3 st3 => exact fun h2 => h2
      | bad => exact fun h2 => h2
end
end Fw
set_option Elab.async false
set_option linter.all false
set_option maxRecDepth 100000
set_option maxHeartbeats 4000000
namespace Fw
open PySem PySem.Spec PyProof.Rows L2
/-! ### comprehensions: the new list is hidden while it is made -/
def wipeR (r : Rho) : List Nat → Rho
  | [] => r
  | v :: vs => (wipeR r vs).set v none
abbrev NF := PV → Rho → Option Rho
def cLcGo (f : NF) (tt : CT) (ce : CE) (r : Rho) : List PV → List PV → Sto → Rs (List PV)
  | [], acc, st => .ok acc st
  | x :: xs, acc, st => match f x r with
    | none => .bad
    | some r1 => ((tt r1 st).quiet).bind fun b st1 => if b = true then ((ce r1 st1).quiet).bind fun y st2 => if acc.length < sizeLine then cLcGo f tt ce r xs (acc ++ [y]) st2 else .bad else cLcGo f tt ce r xs acc st1
def cLc (ci : CI) (f : NF) (tt : CT) (ce : CE) (vs : List Nat) : CE := fun r st => (ci r st).bind fun xs st1 => (cLcGo f tt ce (wipeR r vs) xs [] st1).bind fun ys st2 => .ok (.lv ys) st2
def cLcR (ci : CI) (f : NF) (tt : CT) (ce : CE) (vs : List Nat) : CE := fun r st => (ci r st).bind fun xs st1 => (cLcGo f tt ce (wipeR r vs) xs [] st1).bind fun ys st2 => .ok (.ref st2.length) (st2 ++ [.lst ys])
def cYes : CT := fun _ st => .ok true st
abbrev noW : WX := fun _ _ _ _ => False
theorem tkNo {X : Cx} : Takes X noW := fun _ _ x => by
  obtain ⟨_, _, _, _, _, _, _, _, _, _, _, _, _, _, _, _, z⟩ := x
  exact z.elim
/-- a target of names alone -/
structure NGf (K : PySem.W.Frag) (g : TG) (f : NF) (vs : List Nat) : Prop where
  ok : ∀ t h m st H x v σ r r' (Q : L2.St → Hp → Prop), Rep ⟨K, t, h⟩ m st H → REnv ⟨K, t, h⟩ m H r σ → RV ⟨K, t, h⟩ m H x v → f x r = some r' → (∀ σ', REnv ⟨K, t, h⟩ m H r' σ' → wipe σ' vs = wipe σ vs → Q σ' H) → g v σ H Q
theorem wipe_at (σ : L2.St) : ∀ (vs : List Nat) (i : Nat), (wipe σ vs)[i]? = if i ∈ vs ∧ i < σ.length then some none else σ[i]?
  | [], i => by simp [wipe]
  | v :: vs, i => by
    show ((wipe σ vs).set v none)[i]? = _
    by_cases h : i = v
    · subst h
      by_cases hl : i < σ.length
      · rw [List.getElem?_set_self (by rw [wipe_length]; exact hl), if_pos ⟨List.mem_cons_self, hl⟩]
      · rw [if_neg (fun z => hl z.2), List.getElem?_eq_none (by rw [List.length_set, wipe_length]; omega), List.getElem?_eq_none (by omega)]
    · rw [List.getElem?_set_ne (Ne.symm h), wipe_at σ vs i]
      by_cases c : i ∈ vs ∧ i < σ.length
      · rw [if_pos c, if_pos ⟨List.mem_cons_of_mem _ c.1, c.2⟩]
      · rw [if_neg c, if_neg (fun z => c ⟨(List.mem_cons.mp z.1).resolve_left h, z.2⟩)]
theorem wipe_set {σ : L2.St} {vs : List Nat} {i : Nat} {x : Option V} (h : i ∈ vs) : wipe (σ.set i x) vs = wipe σ vs := by
  apply List.ext_getElem?
  intro j
  rw [wipe_at, wipe_at, List.length_set]
  by_cases c : j ∈ vs ∧ j < σ.length
  · rw [if_pos c, if_pos c]
  · rw [if_neg c, if_neg c]
    by_cases hj : j = i
    · subst hj
      have hl : ¬ j < σ.length := fun z => c ⟨h, z⟩
      rw [List.getElem?_eq_none (by rw [List.length_set]; omega), List.getElem?_eq_none (by omega)]
    · rw [List.getElem?_set_ne (Ne.symm hj)]
theorem wipe_wipe (σ : L2.St) (vs : List Nat) : wipe (wipe σ vs) vs = wipe σ vs := by
  apply List.ext_getElem?
  intro j
  rw [wipe_at, wipe_length, wipe_at]
  by_cases c : j ∈ vs ∧ j < σ.length
  · rw [if_pos c, if_pos c]
  · rw [if_neg c]
theorem REnv.wipe {g : Gd} {m : List Addr} {H : Hp} {r : Rho} {σ : L2.St} (he : REnv g m H r σ) : ∀ vs : List Nat, REnv g m H (wipeR r vs) (L2.wipe σ vs)
  | [] => he
  | v :: vs => (REnv.wipe he vs).forget v
def nfName (i : Nat) : NF := fun x r => some (r.set i (some x))
def nfNames (is : List Nat) : List PV → Rho → Option Rho := fun xs r => match is, xs with
  | [], [] => some r
  | i :: is', x :: xs' => nfNames is' xs' (r.set i (some x))
  | _, _ => none
def nfTup (is : List Nat) : NF := fun x r => match x with
  | .tup xs => nfNames is xs r
  | _ => none
theorem ng_name {K : PySem.W.Frag} {i : Nat} {vs : List Nat} (h : i ∈ vs) : NGf K (L2.gName i) (nfName i) vs := ⟨fun t hh m st H x v σ r r' Q R E rx e q => by
  cases e
  exact q _ (E.set rx i) (wipe_set h)⟩
def gNames : List Nat → TGs
  | [] => L2.gNil
  | i :: is => L2.gCons (L2.gName i) (gNames is)
theorem ngs {K : PySem.W.Frag} {vs : List Nat} : ∀ {is : List Nat}, (∀ i ∈ is, i ∈ vs) → ∀ t h m st H xs us σ r r' (Q : L2.St → Hp → Prop), Rep ⟨K, t, h⟩ m st H → REnv ⟨K, t, h⟩ m H r σ → RVs ⟨K, t, h⟩ m H xs us → nfNames is xs r = some r' → (∀ σ', REnv ⟨K, t, h⟩ m H r' σ' → L2.wipe σ' vs = L2.wipe σ vs → Q σ' H) → gNames is us σ H Q := by
  intro is
  induction is with
  | nil =>
    intro hi t h m st H xs us σ r r' Q R E rx e q
    cases rx with
    | nil => cases e; exact ⟨rfl, q σ E rfl⟩
    | cons _ _ => cases e
  | cons i is ih =>
    intro hi t h m st H xs us σ r r' Q R E rx e q
    cases rx with
    | nil => cases e
    | cons q1 q2 =>
      refine ⟨_, _, rfl, ih (fun j hj => hi j (List.mem_cons_of_mem _ hj)) t h m st H _ _ (σ.set i (some _)) (r.set i (some _)) r' Q R (E.set q1 i) q2 e fun σ' E' w => q σ' E' (w.trans (wipe_set (hi i List.mem_cons_self)))⟩
theorem ng_tup {K : PySem.W.Frag} {is vs : List Nat} {n : Nat} (hn : is.length = n) (h : ∀ i ∈ is, i ∈ vs) : NGf K (L2.gTup K n (gNames is)) (nfTup is) vs := ⟨fun t hh m st H x v σ r r' Q R E rx e q => by
  unfold nfTup at e
  split at e
  · rename_i xs
    cases rx with
    | tup h1 q1 =>
      have hl : ∀ (is : List Nat) (xs : List PV) (r : Rho), nfNames is xs r = some r' → xs.length = is.length := by
        intro is
        induction is with
        | nil => intro xs r e; cases xs with
          | nil => rfl
          | cons _ _ => cases e
        | cons i is ih => intro xs r e; cases xs with
          | nil => cases e
          | cons x xs => have := ih xs _ e; simp [this]
      exact ⟨_, _, rfl, h1.sq, by rw [← q1.length, hl _ _ _ e, hn], ngs h t hh m st H xs _ σ r r' Q R E q1 e q⟩
  · cases e⟩
/-! ### the hidden list -/
theorem RV.updH {g : Gd} {m : List Addr} {H : Hp} {D : Addr} {o : HO} (hD : D ∈ g.h) (n : m.Nodup) {x : PV} {v : V} (r : RV g m H x v) : RV g m (upd H D o) x v := by
  have up : ∀ {p : Addr} {u : HO}, H p = some u → p ∉ g.h → upd H D o p = some u := fun e q => by rw [upd_ne (fun z => q (by rw [z]; exact hD))]; exact e
  have T : ∀ {p : Addr} {xs : List V}, TupAt g m H p xs → TupAt g m (upd H D o) p xs := fun q => by
    rcases q with ⟨q1, q | ⟨ob, q⟩⟩ | q
    · exact .inl ⟨q1, .inl (up q q1.2)⟩
    · exact .inl ⟨q1, .inr ⟨ob, up q q1.2⟩⟩
    · exact .inr q
  have F : ∀ {p : Addr} {xs : List V}, FzAt g m H p xs → FzAt g m (upd H D o) p xs := fun q => by
    rcases q with ⟨q1, q | ⟨ob, q⟩⟩ | q
    · exact .inl ⟨q1, .inl (up q q1.2)⟩
    · exact .inl ⟨q1, .inr ⟨ob, up q q1.2⟩⟩
    · exact .inr q
  exact RV.rec (motive_1 := fun x v _ => RV g m (upd H D o) x v) (motive_2 := fun xs vs _ => RVs g m (upd H D o) xs vs) .non .bl .int .str (fun a _ b => .tup (T a) b) (fun a b _ c => .lv a (up b a.2) c) (fun a _ b => .fz (F a) b) (fun a => .ref a) .raw .nil (fun _ _ a b => .cons a b) r
theorem RVs.updH {g : Gd} {m : List Addr} {H : Hp} {D : Addr} {o : HO} (hD : D ∈ g.h) (n : m.Nodup) : ∀ {xs : List PV} {vs : List V}, RVs g m H xs vs → RVs g m (upd H D o) xs vs
  | _, _, .nil => .nil
  | _, _, .cons a b => .cons (RV.updH hD n a) (RVs.updH hD n b)
theorem REnv.updH {g : Gd} {m : List Addr} {H : Hp} {D : Addr} {o : HO} (hD : D ∈ g.h) (n : m.Nodup) : ∀ {r : Rho} {s : L2.St}, REnv g m H r s → REnv g m (upd H D o) r s
  | _, _, .nil => .nil
  | _, _, .no t => .no (REnv.updH hD n t)
  | _, _, .so h t => .so (RV.updH hD n h) (REnv.updH hD n t)
theorem RKs.updH {g : Gd} {m : List Addr} {H : Hp} {D : Addr} {o : HO} (hD : D ∈ g.h) (n : m.Nodup) {κ : Type} : ∀ {xs : List (κ × PV)} {vs : List (κ × V)}, RKs g m H xs vs → RKs g m (upd H D o) xs vs
  | _, _, .nil => .nil
  | _, _, .cons a b => .cons (RV.updH hD n a) (RKs.updH hD n b)
theorem CelOk.updH {g : Gd} {m : List Addr} {H : Hp} {D : Addr} {o u : HO} (hD : D ∈ g.h) (n : m.Nodup) {c : Cel} (q : CelOk g m H c u) : CelOk g m (upd H D o) c u := by
  cases c with
  | lst xs => obtain ⟨vs, q, r⟩ := q; exact ⟨vs, q, r.updH hD n⟩
  | dk xs => obtain ⟨vs, q, r⟩ := q; exact ⟨vs, q, r.updH hD n⟩
  | dt xs => obtain ⟨vs, q, r⟩ := q; exact ⟨vs, q, r.updH hD n⟩
  | ins c fs => obtain ⟨C, ns, dx, vs, q, q2, r⟩ := q; exact ⟨C, ns, dx, vs, q, q2, ⟨r.nd, r.sub, r.len, fun i n' hn => (r.at_ i n' hn).imp (fun ⟨x, v, a, b, c⟩ => ⟨x, v, a, b, c.updH hD n⟩) id⟩⟩
theorem Rep.updH {g : Gd} {m : List Addr} {st : Sto} {H : Hp} {D : Addr} {ws : List V} (hD : D ∈ g.h) (r : Rep g m st H) : Rep g m st (upd H D (.lst ws)) := by
  have hm := (r.hid D hD).1
  obtain ⟨vs, hv⟩ := (r.hid D hD).2
  refine ⟨r.len, r.nd, fun i a c hi hc => ?_, Tabs.upd r.tabs (fun ps z => by rw [hv] at z; cases z) (fun c q z => by rw [hv] at z; cases z), fun a ha => ⟨(r.hid a ha).1, ?_⟩⟩
  · obtain ⟨o, h1, h2⟩ := r.at_ i a c hi hc
    exact ⟨o, by rw [upd_ne (fun z => hm (by rw [← z]; exact List.mem_of_getElem? hi))]; exact h1, h2.updH hD r.nd⟩
  · by_cases e : a = D
    · exact ⟨ws, by rw [e, upd_same]⟩
    · obtain ⟨us, q⟩ := (r.hid a ha).2
      exact ⟨us, by rw [upd_ne e]; exact q⟩
theorem Rep.hide {K : PySem.W.Frag} {t : Tb} {h m : List Addr} {st : Sto} {H : Hp} {D : Addr} {vs : List V} (r : Rep ⟨K, t, h⟩ m st H) (hD : H D = none) : Rep ⟨K, t, D :: h⟩ m st (upd H D (.lst vs)) := by
  have R := r.new (o := .lst vs) hD
  have X : HExt h (D :: h) H := fun a ha => by
    rcases List.mem_cons.mp ha with e | e
    · exact .inr (by rw [e]; exact hD)
    · exact .inl e
  refine ⟨R.len, R.nd, fun i a c hi hc => ?_, R.tabs, fun a ha => ?_⟩
  · obtain ⟨o, h1, h2⟩ := r.at_ i a c hi hc
    exact ⟨o, by rw [upd_ne (ne_of_none h1 hD)]; exact h1, h2.monoH (Ext.new r hD) X⟩
  · rcases List.mem_cons.mp ha with e | e
    · rw [e]; exact ⟨r.out hD, vs, upd_same⟩
    · exact R.hid a e
theorem Rep.show_ {K : PySem.W.Frag} {t : Tb} {h m : List Addr} {st : Sto} {H : Hp} {D : Addr} (r : Rep ⟨K, t, D :: h⟩ m st H) : Rep ⟨K, t, h⟩ m st H :=
  ⟨r.len, r.nd, fun i a c hi hc => by
    obtain ⟨o, h1, h2⟩ := r.at_ i a c hi hc
    exact ⟨o, h1, h2.monoH r.refl fun a ha => .inl (List.mem_cons_of_mem _ ha)⟩, r.tabs, fun a ha => r.hid a (List.mem_cons_of_mem _ ha)⟩
/-- the hidden list becomes a cell -/
theorem RV.cel {K : PySem.W.Frag} {t : Tb} {h m : List Addr} {H : Hp} {D : Addr} {x : PV} {v : V} (r : RV ⟨K, t, D :: h⟩ m H x v) : RV ⟨K, t, h⟩ (m ++ [D]) H x v := by
  have N : ∀ {p : Addr}, p ∉ m ∧ p ∉ D :: h → p ∉ m ++ [D] ∧ p ∉ h := fun q => ⟨fun z => by
    rcases List.mem_append.mp z with z | z
    · exact q.1 z
    · exact q.2 (by rw [List.mem_singleton.mp z]; exact List.mem_cons_self), fun z => q.2 (List.mem_cons_of_mem _ z)⟩
  exact RV.rec (g := ⟨K, t, D :: h⟩) (motive_1 := fun x v _ => RV ⟨K, t, h⟩ (m ++ [D]) H x v) (motive_2 := fun xs vs _ => RVs ⟨K, t, h⟩ (m ++ [D]) H xs vs) .non .bl .int .str (fun a _ b => .tup (a.imp (fun q => ⟨N q.1, q.2⟩) id) b) (fun a b _ c => .lv (N a) b c) (fun a _ b => .fz (a.imp (fun q => ⟨N q.1, q.2⟩) id) b) (fun a => .ref (get_pre a)) .raw .nil (fun _ _ a b => .cons a b) r
theorem RVs.cel {K : PySem.W.Frag} {t : Tb} {h m : List Addr} {H : Hp} {D : Addr} : ∀ {xs : List PV} {vs : List V}, RVs ⟨K, t, D :: h⟩ m H xs vs → RVs ⟨K, t, h⟩ (m ++ [D]) H xs vs
  | _, _, .nil => .nil
  | _, _, .cons a b => .cons (RV.cel a) (RVs.cel b)
theorem RKs.cel {K : PySem.W.Frag} {t : Tb} {h m : List Addr} {H : Hp} {D : Addr} {κ : Type} : ∀ {xs : List (κ × PV)} {vs : List (κ × V)}, RKs ⟨K, t, D :: h⟩ m H xs vs → RKs ⟨K, t, h⟩ (m ++ [D]) H xs vs
  | _, _, .nil => .nil
  | _, _, .cons a b => .cons (RV.cel a) (RKs.cel b)
theorem CelOk.cel {K : PySem.W.Frag} {t : Tb} {h m : List Addr} {H : Hp} {D : Addr} {u : HO} {c : Cel} (q : CelOk ⟨K, t, D :: h⟩ m H c u) : CelOk ⟨K, t, h⟩ (m ++ [D]) H c u := by
  cases c with
  | lst xs => obtain ⟨vs, q, r⟩ := q; exact ⟨vs, q, r.cel⟩
  | dk xs => obtain ⟨vs, q, r⟩ := q; exact ⟨vs, q, r.cel⟩
  | dt xs => obtain ⟨vs, q, r⟩ := q; exact ⟨vs, q, r.cel⟩
  | ins c fs => obtain ⟨C, ns, dx, vs, q, q2, r⟩ := q; exact ⟨C, ns, dx, vs, q, q2, ⟨r.nd, r.sub, r.len, fun i n' hn => (r.at_ i n' hn).imp (fun ⟨x, v, a, b, c⟩ => ⟨x, v, a, b, c.cel⟩) id⟩⟩
theorem Rep.toCel {K : PySem.W.Frag} {t : Tb} {h m : List Addr} {st : Sto} {H : Hp} {D : Addr} {acc : List PV} {us : List V} (r : Rep ⟨K, t, D :: h⟩ m st H) (hd : D ∉ h) (hH : H D = some (.lst us)) (ra : RVs ⟨K, t, D :: h⟩ m H acc us) : Rep ⟨K, t, h⟩ (m ++ [D]) (st ++ [.lst acc]) H := by
  have hm := (r.hid D List.mem_cons_self).1
  refine ⟨by simp [r.len], ?_, fun i a c' hi hc => ?_, r.tabs, fun a ha => ⟨fun z => ?_, (r.hid a (List.mem_cons_of_mem _ ha)).2⟩⟩
  · rw [List.nodup_append]
    exact ⟨r.nd, by simp, fun a ha b hb z => hm (by rw [← List.mem_singleton.mp hb, ← z]; exact ha)⟩
  · by_cases hlt : i < m.length
    · rw [List.getElem?_append_left hlt] at hi
      rw [List.getElem?_append_left (by rw [← r.len]; exact hlt)] at hc
      obtain ⟨u, h1, h2⟩ := r.at_ i a c' hi hc
      exact ⟨u, h1, h2.cel⟩
    · have hb := (List.getElem?_eq_some_iff.mp hi).1
      rw [List.length_append, List.length_singleton] at hb
      have ei : i = m.length := by omega
      subst ei
      rw [List.getElem?_append_right (Nat.le_refl _), Nat.sub_self] at hi
      rw [r.len, List.getElem?_append_right (Nat.le_refl _), Nat.sub_self] at hc
      cases hi; cases hc
      exact ⟨_, hH, us, rfl, ra.cel⟩
  · rcases List.mem_append.mp z with z | z
    · exact (r.hid a (List.mem_cons_of_mem _ ha)).1 z
    · exact hd (by rw [← List.mem_singleton.mp z]; exact ha)
structure STs (t : Tb) (X : Cx) (W : WX) (e : List Expr) (c : CT) : Prop where
  pt : PTs X e (tT X.K t W c)
theorem _root_.L2.PTs.imp {X : Cx} {e : List Expr} {t t' : TT} (h : PTs X e t) (i : ∀ σ H Q, t' σ H Q → t σ H Q) : PTs X e t' := ⟨fun pins s σ H Q I q => h.run pins s σ H Q I (i σ H Q q)⟩
section
variable {t : Tb} {X : Cx} {W : WX} {pos : Pos}
theorem sts_nil : STs t X W [] cYes := ⟨pts_nil.imp fun σ H Q ⟨h, m, st, r, hr, he, hq⟩ => hq m H _ hr.refl hr rfl⟩
theorem sts_one {e : Expr} {c : CT} (h : ST t X W e c) : STs t X W [e] c := ⟨pts_one h.pt⟩
variable {elt tg iter : Expr} {ifs : List Expr} {scope : Scope} {own : List (Str × Nat)} {ci : CI} {g : TG} {nf : NF} {ct : CT} {ce : CE}
/-- the loop: W -/
theorem lc_loop {h m1 : List Addr} {st1 : Sto} {H1 : Hp} {r : Rho} {σ : L2.St} {xs : List PV} {J : It} {vs : List Nat} {Q : VK} {D : Addr} {fin : List PV → Sto → Rs PV} (r1 : Rep (gd X t h) m1 st1 H1) (he : REnv (gd X t h) m1 H1 r σ) (hJ : ItOk (gd X t h) J xs m1 H1) (hD : H1 D = none) (hg : NGf X.K g nf vs)
    (h1 : EO (gd X t h) (rV (gd X t h)) W σ m1 H1 Q ((cLcGo nf ct ce (wipeR r vs) xs [] st1).bind fin))
    (hfin : ∀ m st H acc us, Ext m1 H1 m H → Rep (gd X t (D :: h)) m st H → H D = some (.lst us) → RVs (gd X t (D :: h)) m H acc us → EO (gd X t h) (rV (gd X t h)) W σ m1 H1 Q (fin acc st) → Q (.ref D) H) :
    ∃ Wv : Nat → Nat → Hp → Prop, (∃ n, Wv 0 n (upd H1 D (.lst []))) ∧ ∀ i n H, Wv i n H → (J.stop i H ∧ Q (.ref D) H) ∨ (J.go i H ∧ ∃ Nx : Hp → Prop, (∀ H', Nx H' → ∃ m', m' < n ∧ Wv (i + 1) m' H') ∧ ∀ x H', J.yld i H x H' → g x (wipe σ vs) H' fun σ2 H2 => wipe σ2 vs = wipe σ vs ∧ tT X.K t noW ct σ2 H2 fun b H3 =>
      if b = true then tE X.K t noW ce σ2 H3 fun y H4 => ∃ acc, H4 D = some (.lst acc) ∧ acc.length < sizeLine ∧ Nx (upd H4 D (.lst (acc ++ [y]))) else Nx H3) := by
  have X0 : HExt h (D :: h) H1 := fun a ha => by
    rcases List.mem_cons.mp ha with e | e
    · exact .inr (by rw [e]; exact hD)
    · exact .inl e
  refine ⟨fun i n H => n + i = xs.length ∧ ∃ m st acc us, Ext m1 H1 m H ∧ Rep (gd X t (D :: h)) m st H ∧ H D = some (.lst us) ∧ RVs (gd X t (D :: h)) m H acc us ∧ EO (gd X t h) (rV (gd X t h)) W σ m1 H1 Q ((cLcGo nf ct ce (wipeR r vs) (xs.drop i) acc st).bind fin),
    ⟨xs.length, by simp, m1, st1, [], [], Ext.new r1 hD, r1.hide hD, upd_same, .nil, h1⟩, ?_⟩
  rintro i n H ⟨hn, m, st, acc, us, E, R, hH, ra, K⟩
  obtain ⟨g1, g2⟩ := hJ i (D :: h) m st H X0 E R
  by_cases hlt : i < xs.length
  · have hx := List.getElem?_eq_getElem hlt
    obtain ⟨go, yl⟩ := g1 _ hx
    rw [drop_some hx] at K
    refine .inr ⟨go, fun H' => (n - 1) + (i + 1) = xs.length ∧ ∃ m st acc us, Ext m1 H1 m H' ∧ Rep (gd X t (D :: h)) m st H' ∧ H' D = some (.lst us) ∧ RVs (gd X t (D :: h)) m H' acc us ∧ EO (gd X t h) (rV (gd X t h)) W σ m1 H1 Q ((cLcGo nf ct ce (wipeR r vs) (xs.drop (i + 1)) acc st).bind fin),
      fun H' q => ⟨n - 1, by omega, q⟩, fun v H' hy => ?_⟩
    obtain ⟨E1, R1, rv⟩ := yl v H' hy
    have K1 := K
    unfold cLcGo at K1
    cases ef : nf xs[i] (wipeR r vs) with
    | none => rw [ef] at K1; exact K1.elim
    | some r' =>
      rw [ef] at K1
      refine hg.ok t (D :: h) m st H' _ v (wipe σ vs) (wipeR r vs) r' _ R1 ((he.monoH (E.trans E1) X0).wipe vs) rv ef fun σ' E' w => ⟨w.trans (wipe_wipe σ vs), D :: h, m, st, r', R1, E', ?_⟩
      have D1 : H' D = some (.lst us) := E1.keep D _ hH (R.hid D List.mem_cons_self).1 (fun _ z => nomatch z)
      cases et : ct r' st with
      | bad => simp only [et, Rs.quiet, Rs.bind] at K1; exact K1.elim
      | exc c s => simp only [et, Rs.quiet, Rs.bind] at K1; exact K1.elim
      | ok b st2 =>
        simp only [et, Rs.quiet, Rs.bind] at K1
        intro m2 H2 bv E2 R2 rb
        cases rb
        have D2 : H2 D = some (.lst us) := E2.keep D _ D1 (R1.hid D List.mem_cons_self).1 (fun _ z => nomatch z)
        have K2 := K1
        cases b with
        | false =>
          refine iteF ⟨by omega, m2, st2, acc, us, (E.trans E1).trans E2, R2, D2, (ra.mono E1).mono E2, ?_⟩
          simpa using K2
        | true =>
          refine iteT ⟨D :: h, m2, st2, r', R2, E'.mono E2, ?_⟩
          rw [if_pos rfl] at K2
          cases ee : ce r' st2 with
          | bad => simp only [ee, Rs.quiet, Rs.bind] at K2; exact K2.elim
          | exc c s => simp only [ee, Rs.quiet, Rs.bind] at K2; exact K2.elim
          | ok y st3 =>
            simp only [ee, Rs.quiet, Rs.bind] at K2
            intro m3 H3 yv E3 R3 ry
            have hDm := (R2.hid D List.mem_cons_self).1
            have D3 : H3 D = some (.lst us) := E3.keep D _ D2 hDm (fun _ z => nomatch z)
            have ra3 := ((ra.mono E1).mono E2).mono E3
            by_cases hl : acc.length < sizeLine
            · rw [if_pos hl] at K2
              refine ⟨us, D3, by rw [← ra3.length]; exact hl, by omega, m3, st3, acc ++ [y], us ++ [yv], ?_, R3.updH List.mem_cons_self, upd_same, (ra3.append (.cons ry .nil)).updH List.mem_cons_self R3.nd, ?_⟩
              · have EE := ((E.trans E1).trans E2).trans E3
                refine ⟨EE.pre, EE.nd, fun p o hp np nt => ?_⟩
                rw [upd_ne (fun z => by rw [z, hD] at hp; cases hp)]
                exact EE.keep p o hp np nt
              · exact K2
            · rw [if_neg hl] at K2
              exact K2.elim
  · rw [List.drop_eq_nil_of_le (by omega)] at K
    exact .inl ⟨g2 (by omega), hfin m st H acc us E R hH ra K⟩
theorem cel_end {h m1 m2 : List Addr} {st1 st2 : Sto} {H1 H2 : Hp} {σ : L2.St} {Q : VK} {D : Addr} {acc : List PV} {us : List V} (r1 : Rep (gd X t h) m1 st1 H1) (hD : H1 D = none) (E : Ext m1 H1 m2 H2) (R : Rep (gd X t (D :: h)) m2 st2 H2) (hH : H2 D = some (.lst us)) (ra : RVs (gd X t (D :: h)) m2 H2 acc us)
    (K : EO (gd X t h) (rV (gd X t h)) W σ m1 H1 Q (.ok (.ref st2.length) (st2 ++ [.lst acc]))) : Q (.ref D) H2 := by
  have R2 := R.toCel (r1.outh hD).2 hH ra
  refine K (m2 ++ [D]) H2 _ ⟨?_, R2.nd, E.keep⟩ R2 (.ref (get_new R D))
  obtain ⟨l, el, hl⟩ := E.pre
  refine ⟨l ++ [D], by rw [el, List.append_assoc], fun a ha o ho => ?_⟩
  rcases List.mem_append.mp ha with z | z
  · exact hl a z o ho
  · rw [List.mem_singleton.mp z, hD] at ho
    cases ho
theorem se_lc (hc : X.calm = true) (hN : X.N.Nodup) (hi : SI t X W tg iter ci) (ok : BlkOk X.N X.env.scope scope own) (hf : NGf X.K g nf (own.map (·.2)))
    (hg : ∀ (s : Shared) (H : Hp) (C : Addr) (cl : List (Str × Addr)) (fp : List Addr), PG (X.blk s H scope (compEnvC scope cl C X.env) fp) tg g)
    (ht : ∀ (s : Shared) (H : Hp) (C : Addr) (cl : List (Str × Addr)) (fp : List Addr), STs t (X.blk s H scope (compEnvC scope cl C X.env) fp) noW ifs ct)
    (he : ∀ (s : Shared) (H : Hp) (C : Addr) (cl : List (Str × Addr)) (fp : List Addr), SE t (X.blk s H scope (compEnvC scope cl C X.env) fp) noW elt ce) (hs : ∀ x, foldedSetIterable iter X.env x = pure x := by intro _; rfl) :
    SE t X W (.ListComp elt [⟨tg, iter, ifs, 0⟩] scope pos) (cLc ci nf ct ce (own.map (·.2))) :=
  ⟨(pe_lc hc hN hi.pi ok hg (fun s H C cl fp => (ht s H C cl fp).pt) (fun s H C cl fp => (he s H C cl fp).pe) hs).imp fun σ H Q ⟨h, m, st, r, hr, hen, hq⟩ => ⟨h, m, st, r, hr, hen, EO.bind hq fun xs st1 m1 H1 J e1 r1 hJ h1 D hD =>
    lc_loop (fin := fun ys st2 => .ok (.lv ys) st2) r1 (hen.mono e1) hJ hD hf h1 fun m2 st2 H2 acc us E R hH ra K => K m2 H2 _ E R.show_ (.lv ⟨(R.hid D List.mem_cons_self).1, (r1.outh hD).2⟩ hH (ra.monoH R.refl fun a ha => .inl (List.mem_cons_of_mem _ ha)))⟩⟩
theorem se_lcR (hc : X.calm = true) (hN : X.N.Nodup) (hi : SI t X W tg iter ci) (ok : BlkOk X.N X.env.scope scope own) (hf : NGf X.K g nf (own.map (·.2)))
    (hg : ∀ (s : Shared) (H : Hp) (C : Addr) (cl : List (Str × Addr)) (fp : List Addr), PG (X.blk s H scope (compEnvC scope cl C X.env) fp) tg g)
    (ht : ∀ (s : Shared) (H : Hp) (C : Addr) (cl : List (Str × Addr)) (fp : List Addr), STs t (X.blk s H scope (compEnvC scope cl C X.env) fp) noW ifs ct)
    (he : ∀ (s : Shared) (H : Hp) (C : Addr) (cl : List (Str × Addr)) (fp : List Addr), SE t (X.blk s H scope (compEnvC scope cl C X.env) fp) noW elt ce) (hs : ∀ x, foldedSetIterable iter X.env x = pure x := by intro _; rfl) :
    SE t X W (.ListComp elt [⟨tg, iter, ifs, 0⟩] scope pos) (cLcR ci nf ct ce (own.map (·.2))) :=
  ⟨(pe_lc hc hN hi.pi ok hg (fun s H C cl fp => (ht s H C cl fp).pt) (fun s H C cl fp => (he s H C cl fp).pe) hs).imp fun σ H Q ⟨h, m, st, r, hr, hen, hq⟩ => ⟨h, m, st, r, hr, hen, EO.bind hq fun xs st1 m1 H1 J e1 r1 hJ h1 D hD =>
    lc_loop (fin := fun ys st2 => .ok (.ref st2.length) (st2 ++ [.lst ys])) r1 (hen.mono e1) hJ hD hf h1 fun m2 st2 H2 acc us E R hH ra K => by
      exact cel_end r1 hD E R hH ra K⟩⟩
end
end Fw
set_option Elab.async false
set_option linter.all false
set_option maxRecDepth 100000
set_option maxHeartbeats 4000000
namespace Fw
open PySem PySem.Spec PyProof.Rows L2
/-! ### items, slices, lengths -/
def atP (xs : List PV) (i : Int) : Option PV := atI xs i
theorem RVs.atI {g : Gd} {m : List Addr} {H : Hp} {xs : List PV} {vs : List V} {i : Int} {x : PV} (r : RVs g m H xs vs) (h : L2.atI xs i = some x) : ∃ v, L2.atI vs i = some v ∧ RV g m H x v := by
  unfold L2.atI at h ⊢
  rw [← r.length]
  cases e : ixN xs.length i with
  | none => rw [e] at h; cases h
  | some j =>
    rw [e] at h
    exact r.get h
def fIx : Sto → PV → PV → Option PV := fun st x y => match y with
  | .int i => match x with
    | .str z => if z.length ≤ sizeLine then (L2.atI z.cps.toList i).map fun c => .str ⟨#[c]⟩ else none
    | x => match seqOf st x with
      | some xs => L2.atI xs i
      | none => none
  | _ => none
def cutL {α : Type} (xs : List α) (lo hi : Option Int) : List α := (xs.drop (HT.sIx xs.length 0 lo)).take (HT.sIx xs.length xs.length hi - HT.sIx xs.length 0 lo)
abbrev CO := Rho → Sto → Rs (Option Int)
def oNone : CO := fun _ st => .ok none st
def oSome (c : CE) : CO := fun r st => (c r st).bind fun x st1 => match x with
  | .int i => .ok (some i) st1
  | _ => .bad
def cSl (f : Sto → PV → Option Int → Option Int → Option PV) (c : CE) (lo hi : CO) : CE := fun r st => (c r st).bind fun x st1 => (lo r st1).bind fun l st2 => (hi r st2).bind fun u st3 => .lift (f st3 x l u) st3
def fSl : Sto → PV → Option Int → Option Int → Option PV := fun st x lo hi => match x with
  | .str z => if z.length ≤ sizeLine then some (.str (cutS z lo hi)) else none
  | .tup xs => some (.tup (cutL xs lo hi))
  | .fz xs => some (.lv (cutL xs lo hi))
  | x => (listOf st x).map fun xs => .lv (cutL xs lo hi)
def SlG (K : PySem.W.Frag) (t : Tb) (r : V → Option Int → Option Int → Hp → VK → Prop) (f : Sto → PV → Option Int → Option Int → Option PV) : Prop := ∀ h m st H x u lo hi z Q, Rep ⟨K, t, h⟩ m st H → RV ⟨K, t, h⟩ m H x u → f st x lo hi = some z →
  (∀ m' H' w, Ext m H m' H' → Rep ⟨K, t, h⟩ m' st H' → RV ⟨K, t, h⟩ m' H' z w → Q w H') → r u lo hi H Q
abbrev rO : List Addr → Hp → Option Int → Option Int → Prop := fun _ _ a b => a = b
def tO (K : PySem.W.Frag) (t : Tb) (W : WX) (c : CO) : TO := fun σ H Q => ∃ h m st r, Rep ⟨K, t, h⟩ m st H ∧ REnv ⟨K, t, h⟩ m H r σ ∧ EO ⟨K, t, h⟩ rO W σ m H Q (c r st)
structure SO (t : Tb) (X : Cx) (W : WX) (e : Option Expr) (c : CO) : Prop where
  po : PO X e (tO X.K t W c)
def rSlAll (K : PySem.W.Frag) : V → Option Int → Option Int → Hp → VK → Prop := fun x lo hi H Q => rSlS x lo hi H Q ∨ rSlA K x lo hi H Q ∨ rSlL K x lo hi H Q
theorem sl_all {X : Cx} : SlR X (rSlAll X.K) := sl_str.or (sl_tupA.or sl_list)
theorem RVs.cut {g : Gd} {m : List Addr} {H : Hp} {xs : List PV} {vs : List V} (r : RVs g m H xs vs) (lo hi : Option Int) : RVs g m H (cutL xs lo hi) (cutV vs lo hi) := by
  unfold cutL cutV
  rw [← r.length]
  exact (r.drop _).take _
theorem cutL_whole {α : Type} {xs : List α} {lo hi : Option Int} (h : HT.sIx xs.length 0 lo = 0 ∧ HT.sIx xs.length xs.length hi = xs.length) : cutL xs lo hi = xs := by
  unfold cutL
  rw [h.1, h.2, List.drop_zero, Nat.sub_zero, List.take_length]
def fLen : Sto → List PV → Option PV := fun st xs => match xs with
  | [.str z] => if z.length ≤ sizeLine then some (.int z.length) else none
  | [x] => (seqOf st x).map fun ys => .int ys.length
  | _ => none
def fAbs : Sto → List PV → Option PV := fun _ xs => match xs with
  | [.int i] => some (.int (if i < 0 then -i else i))
  | _ => none
def fInt : Sto → List PV → Option PV := fun _ xs => match xs with
  | [.int i] => some (.int i)
  | [.bl b] => some (.int (if b then 1 else 0))
  | _ => none
def fMin2 : Sto → List PV → Option PV := fun _ xs => match xs with
  | [.int i, .int j] => some (.int (if j < i then j else i))
  | _ => none
def fMax2 : Sto → List PV → Option PV := fun _ xs => match xs with
  | [.int i, .int j] => some (.int (if j > i then j else i))
  | _ => none
def fTuple : Sto → List PV → Option PV := fun st xs => match xs with
  | [x] => (seqOf st x).map .tup
  | _ => none
def fList : Sto → List PV → Option PV := fun st xs => match xs with
  | [x] => (seqOf st x).map .lv
  | _ => none
section
variable {K : PySem.W.Frag} {t : Tb}
theorem og_ix : OpG K t (rIx K) fIx := by
  intro h m st H x y u v z Q R rx ry e q
  unfold fIx at e
  split at e
  · obtain rfl := ry.int_inv
    split at e
    · obtain rfl := rx.str_inv
      split at e
      · rename_i s hl
        cases ea : L2.atI s.cps.toList _ with
        | none => rw [ea] at e; cases e
        | some c =>
          rw [ea] at e
          cases e
          exact .inr (.inr ⟨_, _, c, rfl, rfl, hl, ea, q m H _ R.refl R (.str _)⟩)
      · cases e
    · split at e
      · rename_i xs es
        obtain ⟨p, vs, rfl, hs, rs⟩ := seqOf_at R rx es
        obtain ⟨w, hw, rw_⟩ := rs.atI e
        rcases hs with hs | hs
        · exact .inl ⟨p, vs, _, w, rfl, rfl, hs, hw, q m H w R.refl R rw_⟩
        · exact .inr (.inl ⟨p, vs, _, w, rfl, rfl, hs, hw, q m H w R.refl R rw_⟩)
      · cases e
  · cases e
theorem sg_all : SlG K t (rSlAll K) fSl := by
  intro h m st H x u lo hi z Q R rx e q
  unfold fSl at e
  split at e
  · obtain rfl := rx.str_inv
    split at e
    · rename_i hl
      cases e
      exact .inl ⟨_, rfl, hl, q m H _ R.refl R (.str _)⟩
    · cases e
  · cases e
    cases rx with
    | tup h1 q1 =>
      refine .inr (.inl ⟨_, _, rfl, h1.sq, fun w => ?_, fun _ p hp => ?_⟩)
      · rw [← q1.length] at w
        exact q m H _ R.refl R (by rw [cutL_whole w]; exact .tup h1 q1)
      · exact q m _ _ (Ext.new R hp) (R.new hp) (.tup (.inl ⟨R.outh hp, .inl upd_same⟩) ((q1.cut lo hi).mono (Ext.new R hp)))
  · cases e
    cases rx with
    | fz h1 q1 => exact .inr (.inr ⟨_, _, rfl, h1.sq, fun p hp => q m _ _ (Ext.new R hp) (R.new hp) (.lv (R.outh hp) upd_same ((q1.cut lo hi).mono (Ext.new R hp)))⟩)
  · cases es : listOf st x with
    | none => rw [es] at e; cases e
    | some xs =>
      rw [es] at e
      cases e
      obtain ⟨p, vs, rfl, hs, rs⟩ := listOf_at R rx es
      exact .inr (.inr ⟨p, vs, rfl, SqL.of hs, fun p hp => q m _ _ (Ext.new R hp) (R.new hp) (.lv (R.outh hp) upd_same ((rs.cut lo hi).mono (Ext.new R hp)))⟩)
theorem fg_len : FnG K t (fun xs H Q => ∃ x n, xs = [x] ∧ LenV K x H n ∧ Q (.int n) H) fLen := by
  intro h m st H xs us z Q R rx e q
  unfold fLen at e
  split at e
  · cases rx with
    | cons q1 rr =>
      cases rr
      obtain rfl := q1.str_inv
      split at e
      · rename_i hl
        cases e
        exact ⟨_, _, rfl, ⟨hl, rfl⟩, q m H _ R.refl R (.int _)⟩
      · cases e
  · rename_i x _
    cases rx with
    | cons q1 rr =>
      cases rr
      cases es : seqOf st x with
      | none => rw [es] at e; cases e
      | some ys =>
        rw [es] at e
        cases e
        obtain ⟨p, vs, rfl, hs, rs⟩ := seqOf_at R q1 es
        refine ⟨_, vs.length, rfl, ?_, ?_⟩
        · exact hs.imp (fun a => ⟨_, a, rfl⟩) (fun a => ⟨_, a, rfl⟩)
        · rw [← rs.length]; exact q m H _ R.refl R (.int _)
  · cases e
theorem fg_abs : FnG K t (fun xs H Q => ∃ i, xs = [.int i] ∧ Q (.int (if i < 0 then -i else i)) H) fAbs := by
  intro h m st H xs us z Q R rx e q
  unfold fAbs at e
  split at e
  · cases rx with
    | cons q1 rr =>
      cases rr
      obtain rfl := q1.int_inv
      cases e
      exact ⟨_, rfl, q m H _ R.refl R (.int _)⟩
  · cases e
theorem fg_int : FnG K t (fun xs H Q => (∃ i, xs = [.int i] ∧ Q (.int i) H) ∨ ∃ k, xs = [.bl k] ∧ Q (.int (if k then 1 else 0)) H) fInt := by
  intro h m st H xs us z Q R rx e q
  unfold fInt at e
  split at e
  · cases rx with
    | cons q1 rr =>
      cases rr
      obtain rfl := q1.int_inv
      cases e
      exact .inl ⟨_, rfl, q m H _ R.refl R (.int _)⟩
  · cases rx with
    | cons q1 rr =>
      cases rr
      obtain rfl := q1.bl_inv
      cases e
      exact .inr ⟨_, rfl, q m H _ R.refl R (.int _)⟩
  · cases e
theorem fg_min2 : FnG K t (fun xs H Q => ∃ i j, xs = [.int i, .int j] ∧ Q (.int (if j < i then j else i)) H) fMin2 := by
  intro h m st H xs us z Q R rx e q
  unfold fMin2 at e
  split at e
  · cases rx with
    | cons q1 rr => cases rr with
      | cons q2 rr =>
        cases rr
        obtain rfl := q1.int_inv
        obtain rfl := q2.int_inv
        cases e
        exact ⟨_, _, rfl, q m H _ R.refl R (.int _)⟩
  · cases e
theorem fg_max2 : FnG K t (fun xs H Q => ∃ i j, xs = [.int i, .int j] ∧ Q (.int (if j > i then j else i)) H) fMax2 := by
  intro h m st H xs us z Q R rx e q
  unfold fMax2 at e
  split at e
  · cases rx with
    | cons q1 rr => cases rr with
      | cons q2 rr =>
        cases rr
        obtain rfl := q1.int_inv
        obtain rfl := q2.int_inv
        cases e
        exact ⟨_, _, rfl, q m H _ R.refl R (.int _)⟩
  · cases e
theorem fg_tuple : FnG K t (fun xs H Q => ∃ p ys, xs = [.ref p] ∧ ((SqL K H p ys ∧ ∀ l, H l = none → Q (.ref l) (upd H l (.tup ys))) ∨ (SqT K H p ys ∧ Q (.ref p) H))) fTuple := by
  intro h m st H xs us z Q R rx e q
  unfold fTuple at e
  split at e
  · rename_i x
    cases rx with
    | cons q1 rr =>
      cases rr
      cases es : seqOf st x with
      | none => rw [es] at e; cases e
      | some ys =>
        rw [es] at e
        cases e
        have lst : ∀ {p vs}, SqL K H p vs → RVs ⟨K, t, h⟩ m H ys vs → ∀ l, H l = none → Q (.ref l) (upd H l (.tup vs)) := fun {p vs} hs rs l hl =>
          q m _ _ (Ext.new R hl) (R.new hl) (.tup (.inl ⟨R.outh hl, .inl upd_same⟩) (rs.mono (Ext.new R hl)))
        cases q1 with
        | tup h1 r1 => cases es; exact ⟨_, _, rfl, .inr ⟨h1.sq, q m H _ R.refl R (.tup h1 r1)⟩⟩
        | fz h1 r1 => cases es; exact ⟨_, _, rfl, .inl ⟨h1.sq, lst h1.sq r1⟩⟩
        | lv n h1 r1 => cases es; exact ⟨_, _, rfl, .inl ⟨SqL.of h1, lst (SqL.of h1) r1⟩⟩
        | ref h1 =>
          obtain ⟨p, vs, e1, e2, e3⟩ := listOf_at R (.ref h1) (by exact es)
          cases e1
          exact ⟨_, _, rfl, .inl ⟨SqL.of e2, lst (SqL.of e2) e3⟩⟩
        | _ => cases es
  · cases e
theorem fg_list : FnG K t (fun xs H Q => ∃ p ys, xs = [.ref p] ∧ (SqL K H p ys ∨ SqT K H p ys) ∧ ∀ l, H l = none → Q (.ref l) (upd H l (.lst ys))) fList := by
  intro h m st H xs us z Q R rx e q
  unfold fList at e
  split at e
  · rename_i x
    cases rx with
    | cons q1 rr =>
      cases rr
      cases es : seqOf st x with
      | none => rw [es] at e; cases e
      | some ys =>
        rw [es] at e
        cases e
        obtain ⟨p, vs, rfl, hs, rs⟩ := seqOf_at R q1 es
        exact ⟨p, vs, rfl, hs, fun l hl => q m _ _ (Ext.new R hl) (R.new hl) (.lv (R.outh hl) upd_same (rs.mono (Ext.new R hl)))⟩
  · cases e
end
/-! ### in -/
def flatP : PV → Bool
  | .non => true
  | .bl _ => true
  | .int _ => true
  | .str _ => true
  | _ => false
def eqP : PV → PV → Bool
  | .non, .non => true
  | .bl a, .bl b => a == b
  | .bl a, .int b => (if a then 1 else 0) == b
  | .int a, .bl b => a == (if b then 1 else 0)
  | .int a, .int b => a == b
  | .str a, .str b => a == b
  | _, _ => false
theorem flat_rv {g : Gd} {m : List Addr} {H : Hp} {x : PV} {v : V} (r : RV g m H x v) (h : flatP x = true) : flatV v = true := by
  cases r <;> first | rfl | exact nomatch h
theorem eq_rv {g : Gd} {m : List Addr} {H : Hp} {x y : PV} {v w : V} (r : RV g m H x v) (s : RV g m H y w) (h : flatP x = true) (k : flatP y = true) : eqV v w = eqP x y := by
  cases r <;> cases s <;> first | rfl | (simp [flatP] at h k)
theorem any_rv {g : Gd} {m : List Addr} {H : Hp} {x : PV} {v : V} (r : RV g m H x v) (h : flatP x = true) : ∀ {xs : List PV} {vs : List V}, RVs g m H xs vs → xs.all flatP = true → vs.all flatV = true ∧ (vs.any fun y => eqV y v) = xs.any fun y => eqP y x
  | _, _, .nil, _ => ⟨rfl, rfl⟩
  | _, _, .cons q t, k => by
    rw [List.all_cons, Bool.and_eq_true] at k
    obtain ⟨i1, i2⟩ := any_rv r h t k.2
    exact ⟨by rw [List.all_cons, flat_rv q k.1, i1]; rfl, by rw [List.any_cons, List.any_cons, eq_rv q r k.1 h, i2]⟩
def inB (st : Sto) (x y : PV) : Option Bool := match x, y with
  | .str ⟨⟨[c]⟩⟩, .str z => some (decide (c ∈ z.cps.toList))
  | x, y => match seqOf st y with
    | some ys => if flatP x = true ∧ ys.all flatP = true then some (ys.any fun y => eqP y x) else none
    | none => none
def fIn : Sto → PV → PV → Option PV := fun st x y => (inB st x y).map .bl
def fNotIn : Sto → PV → PV → Option PV := fun st x y => (inB st x y).map fun b => .bl (!b)
def rInS (neg : Bool) : R2 := fun x y H Q => ∃ (c : Nat) (z : Str), x = .str ⟨#[c]⟩ ∧ y = .str z ∧ Q (.bl (if neg then !decide (c ∈ z.cps.toList) else decide (c ∈ z.cps.toList))) H
def rInA (K : PySem.W.Frag) (neg : Bool) : R2 := fun x y H Q => rInS neg x y H Q ∨ rIn K neg x y H Q
theorem op_inA {X : Cx} : OpR X (compareOp .In) (rInA X.K false) := OpR.or (r := rInS false) op_in_sign op_in_seq
theorem op_notInA {X : Cx} : OpR X (compareOp .NotIn) (rInA X.K true) := OpR.or (r := rInS true) op_notIn_sign op_notIn_seq
section
variable {K : PySem.W.Frag} {t : Tb}
theorem inB_ok {neg : Bool} {h m : List Addr} {st : Sto} {H : Hp} {x y : PV} {u v : V} {b : Bool} {Q : VK} (R : Rep ⟨K, t, h⟩ m st H) (rx : RV ⟨K, t, h⟩ m H x u) (ry : RV ⟨K, t, h⟩ m H y v) (e : inB st x y = some b) (q : Q (.bl (if neg then !b else b)) H) : rInA K neg u v H Q := by
  unfold inB at e
  split at e
  · cases e
    obtain rfl := rx.str_inv
    obtain rfl := ry.str_inv
    exact .inl ⟨_, _, rfl, rfl, q⟩
  · split at e
    · rename_i ys es
      split at e
      · rename_i c
        cases e
        obtain ⟨p, vs, rfl, hs, rs⟩ := seqOf_at R ry es
        obtain ⟨k1, k2⟩ := any_rv rx c.1 rs c.2
        refine .inr ⟨p, vs, rfl, hs, flat_rv rx c.1, k1, ?_⟩
        unfold inV
        rw [k2]
        exact q
      · cases e
    · cases e
theorem og_in : OpG K t (rInA K false) fIn := by
  intro h m st H x y u v z Q R rx ry e q
  unfold fIn at e
  cases e1 : inB st x y with
  | none => rw [e1] at e; cases e
  | some b => rw [e1] at e; cases e; exact inB_ok R rx ry e1 (q m H _ R.refl R (.bl b))
theorem og_notIn : OpG K t (rInA K true) fNotIn := by
  intro h m st H x y u v z Q R rx ry e q
  unfold fNotIn at e
  cases e1 : inB st x y with
  | none => rw [e1] at e; cases e
  | some b => rw [e1] at e; cases e; exact inB_ok R rx ry e1 (q m H _ R.refl R (.bl (!b)))
/-! ### lists that change -/
def isList (st : Sto) : PV → Bool
  | .lv _ => true
  | .fz _ => true
  | .ref i => match st[i]? with
    | some (.lst _) => true
    | _ => false
  | _ => false
theorem ty_list : TyG K t "list" isList := by
  intro h m st H x u R rx e
  cases rx with
  | lv n h1 q => exact .inl ⟨rfl, _, SqL.of h1⟩
  | fz h1 q => exact .inl ⟨rfl, _, h1.sq⟩
  | ref h1 =>
    simp only [isList] at e
    split at e
    · rename_i es
      obtain ⟨o, h2, vs, h3, q⟩ := R.at_ _ _ _ h1 es
      exact .inl ⟨rfl, vs, SqL.of (by rw [h2, h3])⟩
    · cases e
  | _ => cases e
def isStr (_ : Sto) : PV → Bool
  | .str _ => true
  | _ => false
theorem ty_str : TyG K t "str" isStr := by
  intro h m st H x u R rx e
  cases rx with
  | str x => rfl
  | _ => cases e
/-- the items of the cell behind a value -/
def celL (st : Sto) : PV → Option (Nat × List PV)
  | .ref i => match st[i]? with
    | some (.lst xs) => some (i, xs)
    | _ => none
  | _ => none
theorem celL_at {g : Gd} {m : List Addr} {st : Sto} {H : Hp} (R : Rep g m st H) {x : PV} {u : V} {i : Nat} {xs : List PV} (r : RV g m H x u) (e : celL st x = some (i, xs)) : ∃ p vs, u = .ref p ∧ m[i]? = some p ∧ st[i]? = some (.lst xs) ∧ H p = some (.lst vs) ∧ RVs g m H xs vs := by
  cases r with
  | ref h =>
    simp only [celL] at e
    split at e
    · rename_i ys hy
      cases e
      obtain ⟨o, h1, vs, h2, q⟩ := R.at_ _ _ _ h hy
      exact ⟨_, vs, rfl, h, hy, by rw [h1, h2], q⟩
    · cases e
  | _ => cases e
theorem setL {g : Gd} {m : List Addr} {st : Sto} {H : Hp} {i : Nat} {p : Addr} {xs ys : List PV} {ws : List V} (R : Rep g m st H) (hm : m[i]? = some p) (hx : st[i]? = some (.lst xs)) (r : RVs g m H ys ws) : Ext m H m (upd H p (.lst ws)) ∧ Rep g m (st.set i (.lst ys)) (upd H p (.lst ws)) :=
  ⟨Ext.set R hm, R.setCel hm hx ⟨ws, rfl, r.mono (Ext.set R hm)⟩⟩
def mAppend : Sto → PV → List PV → Option (PV × Sto) := fun st x as => match celL st x, as with
  | some (i, xs), [y] => if xs.length < sizeLine then some (.non, st.set i (.lst (xs ++ [y]))) else none
  | _, _ => none
theorem mg_append : MtG K t rAppend mAppend := by
  intro h m st H x u xs us z st' Q R rx rs e q
  unfold mAppend at e
  split at e
  · rename_i i ys y ec
    split at e
    · rename_i hl
      cases e
      obtain ⟨p, vs, rfl, hm, hx, hp, rv⟩ := celL_at R rx ec
      cases rs with
      | cons q1 rr =>
        cases rr
        obtain ⟨E, R2⟩ := setL R hm hx (rv.append (.cons q1 .nil))
        exact ⟨p, vs, _, rfl, rfl, hp, by rw [← rv.length]; exact hl, q m _ _ E R2 .non⟩
    · cases e
  · cases e
def mPop : Sto → PV → List PV → Option (PV × Sto) := fun st x as => match celL st x, as with
  | some (i, xs), [] => match xs[xs.length - 1]? with
    | some y => some (y, st.set i (.lst xs.dropLast))
    | none => none
  | _, _ => none
theorem RVs.dropLast {g : Gd} {m : List Addr} {H : Hp} {xs : List PV} {vs : List V} (r : RVs g m H xs vs) : RVs g m H xs.dropLast vs.dropLast := by
  rw [List.dropLast_eq_take, List.dropLast_eq_take, r.length]
  exact r.take _
theorem mg_pop : MtG K t rPop mPop := by
  intro h m st H x u xs us z st' Q R rx rs e q
  unfold mPop at e
  split at e
  · rename_i i ys ec
    split at e
    · rename_i y hy
      cases e
      obtain ⟨p, vs, rfl, hm, hx, hp, rv⟩ := celL_at R rx ec
      cases rs
      obtain ⟨w, hw, rw_⟩ := rv.get hy
      obtain ⟨E, R2⟩ := setL R hm hx rv.dropLast
      rw [rv.length] at hw
      exact ⟨p, vs, w, rfl, rfl, hp, hw, q m _ _ E R2 (rw_.mono E)⟩
    · cases e
  · cases e
def mPopAt : Sto → PV → List PV → Option (PV × Sto) := fun st x as => match celL st x, as with
  | some (i, xs), [.int k] => if -(2 ^ 63) ≤ k ∧ k < 2 ^ 63 then match seqIndex? k xs.length with
    | some j => match xs[j]? with
      | some y => some (y, st.set i (.lst (xs.eraseIdx j)))
      | none => none
    | none => none else none
  | _, _ => none
theorem mg_popAt : MtG K t rPopAt mPopAt := by
  intro h m st H x u xs us z st' Q R rx rs e q
  unfold mPopAt at e
  split at e
  · rename_i i ys k ec
    split at e
    · rename_i hk
      split at e
      · rename_i j hj
        split at e
        · rename_i y hy
          cases e
          obtain ⟨p, vs, rfl, hm, hx, hp, rv⟩ := celL_at R rx ec
          cases rs with
          | cons q1 rr =>
            cases rr
            obtain rfl := q1.int_inv
            obtain ⟨w, hw, rw_⟩ := rv.get hy
            obtain ⟨E, R2⟩ := setL R hm hx (rv.eraseIdx j)
            exact ⟨p, vs, k, j, w, rfl, rfl, hp, hk.1, hk.2, by rw [← rv.length]; exact hj, hw, q m _ _ E R2 (rw_.mono E)⟩
        · cases e
      · cases e
    · cases e
  · cases e
/-- xs[i] = v -/
def sList : Sto → PV → PV → PV → Option Sto := fun st o i x => match celL st o, i with
  | some (k, xs), .int j => match ixN xs.length j with
    | some n => some (st.set k (.lst (xs.set n x)))
    | none => none
  | _, _ => none
theorem sg_list : StG K t rSetL sList := by
  intro h m st H o i x uo ui ux st' Q R ro ri rx e q
  unfold sList at e
  split at e
  · rename_i k xs j ec
    split at e
    · rename_i n hn
      cases e
      obtain ⟨p, vs, rfl, hm, hx, hp, rv⟩ := celL_at R ro ec
      obtain rfl := ri.int_inv
      obtain ⟨E, R2⟩ := setL R hm hx (rv.set rx n)
      exact ⟨p, vs, j, n, rfl, rfl, hp, by rw [← rv.length]; exact hn, q m _ E R2⟩
    · cases e
  · cases e
end
section
variable {t : Tb} {X : Cx} {W : WX} {pos p2 : Pos} {e : Expr} {ce : CE} {lo hi : Option Expr} {cl ch : CO}
theorem so_none : SO t X W none oNone := ⟨po_none.imp fun σ H Q ⟨h, m, st, r, hr, he, hq⟩ => hq m H _ hr.refl hr rfl⟩
theorem so_some (he : SE t X W e ce) : SO t X W (some e) (oSome ce) := ⟨(po_some he.pe).imp fun σ H Q ⟨h, m, st, r, hr, he, hq⟩ => ⟨h, m, st, r, hr, he, EO.bind hq fun x st1 m1 H1 u e1 r1 rx h1 => by
  split at h1
  · obtain rfl := rx.int_inv
    exact ⟨_, rfl, h1 m1 H1 _ r1.refl r1 rfl⟩
  · exact h1.elim⟩⟩
theorem se_slice {r : V → Option Int → Option Int → Hp → VK → Prop} {f : Sto → PV → Option Int → Option Int → Option PV} (hr : SlR X r) (hf : SlG X.K t r f) (he : SE t X W e ce) (hl : SO t X W lo cl) (hu : SO t X W hi ch) : SE t X W (.Subscript e (.Slice lo hi none p2) pos) (cSl f ce cl ch) :=
  ⟨(pe_slice hr he.pe hl.po hu.po).imp fun σ H Q ⟨h, m, st, ρ, hr, he, hq⟩ => ⟨h, m, st, ρ, hr, he, EO.bind hq fun x st1 m1 H1 u e1 r1 rx h1 => ⟨h, m1, st1, ρ, r1, he.mono e1, EO.bind h1 fun l st2 m2 H2 l' e2 r2 rl h2 => ⟨h, m2, st2, ρ, r2, (he.mono e1).mono e2, EO.bind h2 fun v st3 m3 H3 v' e3 r3 rv h3 => by
    obtain ⟨z, ez, hz⟩ := fin_op h3
    cases rl
    cases rv
    exact hf h m3 st3 H3 x u l v z Q r3 ((rx.mono e2).mono e3) ez hz⟩⟩⟩⟩
/-- list(x) as a cell -/
def cListR (ca : CA) : CE := fun r st => (ca r st).bind fun xs st1 => match xs with
  | [x] => match seqOf st1 x with
    | some ys => .ok (.ref st1.length) (st1 ++ [.lst ys])
    | none => .bad
  | _ => .bad
theorem se_listR {p : Pos} {es : List Expr} {ca : CA} (hg : Gl X "list") (hm : X.mg "list" = none) (ha : SA t X W (e :: es) ca)
    (he : starEach (e :: es) X.env = (false, eval e X.env) :: starEach es X.env := by rfl) (hpl : (backTo pos (starEach es X.env)).any (·.1) = false := by rfl) : SE t X W (.Call (.Name "list" p) (e :: es) [] pos) (cListR ca) :=
  ⟨(pe_callTy call_list_of hg hm boot_list ha.pa (by decide) (by decide) he hpl).imp fun σ H Q ⟨h, m, st, r, hr, he, hq⟩ => ⟨h, m, st, r, hr, he, EO.bind hq fun xs st1 m1 H1 us e1 r1 rx h1 => by
    split at h1
    · rename_i x
      split at h1
      · rename_i ys es
        cases rx with
        | cons q1 rr =>
          cases rr
          obtain ⟨p, vs, rfl, hs, rs⟩ := seqOf_at r1 q1 es
          exact ⟨p, vs, rfl, hs, fun l hl => h1 (m1 ++ [l]) _ _ (Ext.cel r1 hl) (r1.addCel hl ⟨vs, rfl, rs.mono (Ext.cel r1 hl)⟩) (.ref (get_new r1 l))⟩
      · exact h1.elim
    · exact h1.elim⟩⟩
/-! ### errors -/
def cRaise (c : Nat) : CS := fun r st => .exc c r st
theorem ss_raise {x m : Str} {j : Nat} {p p3 : Pos} {C : Addr} {bmB : List Value} {B newId initId : String} (c : Nat) (hc : X.calm = true) (tk : Takes X W) (hE : t.E[c]? = some C) (F : ExcBaseFacts B newId initId bmB) (q : PySem.W.excIn X.K C bmB newId = true) (gC : X.mg x = some (.ref C)) (kC : PySem.W.keepIn X.K (.ref C) = true) (rC : Raises X (.ref C)) (hg : Gl X x)
    (hdb : (x == ("__debug__" : Str)) = false := by decide) : SS t X W (.Raise (some (.Call (.Name x p) [.Constant (.str m) j p2] [] p3)) none pos) (cRaise c) :=
  ⟨(ps_raise hc tk (pmk_own F q gC kC rC hg hdb)).imp fun D σ H ⟨h, m, st, r, hr, he, hq⟩ => hq m H σ C none hr.refl hr he hE⟩
end
end Fw
set_option Elab.async false
set_option linter.all false
set_option maxRecDepth 100000
set_option maxHeartbeats 4000000
namespace Fw
open PySem PySem.Spec PyProof.Rows L2 LamX
/-! ### what a call of a lambda tells, errors as a text -/
def cTold (grab : Nat → Bool) (ret : Str) (c : CE) : CE := fun r st => match c r st with
  | .ok x st1 => .ok x st1
  | .exc k st1 => if grab k = true then .ok (.str ret) st1 else .bad
  | .bad => .bad
theorem Ext.extN {g : Gd} {m : List Addr} {st : Sto} {H H1 : Hp} (r : Rep g m st H) (e : ExtN H H1) : Ext m H m H1 := ⟨⟨[], by simp, by simp⟩, r.nd, fun p o h _ t => e p o h t⟩
theorem Rep.extN {g : Gd} {m : List Addr} {st : Sto} {H H1 : Hp} (r : Rep g m st H) (e : ExtN H H1) (ht : Tabs g.t.T H1) : Rep g m st H1 := by
  have E := Ext.extN r e
  refine ⟨r.len, r.nd, fun i a c hi hc => ?_, ht, fun a ha => ⟨(r.hid a ha).1, ?_⟩⟩
  · obtain ⟨o, h1, h2⟩ := r.at_ i a c hi hc
    exact ⟨o, e a o h1 h2.mut, h2.mono E⟩
  · obtain ⟨vs, q⟩ := (r.hid a ha).2
    exact ⟨vs, e a _ q (fun _ z => nomatch z)⟩
section
variable {t : Tb} {X : Cx} {W : WX} {pos p lpos : Pos}
/-- x(lambda: body), x a def that says: try: return a() / except e: return ret -/
theorem se_told {x a en ret : Str} {sd : Stmt} {g c P CS : Addr} {fdt : FuncData} {k j : Nat} {p1 p2 p3 p4 p5 p6 p7 p8 : Pos} {Ng : List Str} {params : Arguments} {body : Expr} {scope : Scope} {ce : CE} (grab : Nat → Bool)
    (FT : Fun X.K x x sd g fdt) (hsd : defBody sd = [.Try [.Return (some (.Call (.Name a p1) [] [] p2)) p3] [.ExceptHandler (some (.Name en p4)) none [.Return (some (.Constant (.str ret) j p5)) p6] p7] [] [] p8])
    (hg : Gl X x) (hm : X.mg x = some (.ref g)) (hb : L2.Binds X.K fdt [a] []) (Sg : FnScope Ng [a] (defScope sd)) (hNg : Ng[0]? = some a) (hva : Vis (defScope sd) a) (hge : (defScope sd).names.lookup en = some .globalImplicit) (hme : X.mg en = some (.ref CS))
    (h0 : ∀ f : Addr, (L2.start Ng [V.ref f])[0]? = some (some (V.ref f)))
    (hcat : ∀ i C, t.E[i]? = some C → PySem.W.exmOne X.K (.ref C) (.ref CS) = some (grab i))
    (TB : LamX.TabB X.base X.mg c P) (hcode : X.env.code = .ref c) (hmT : (P, X.env.qual ++ "<lambda>") ∈ t.T) (hu : ∀ q ∈ t.T, q.1 = P → q.2 = X.env.qual ++ "<lambda>") (hr : Room (k + 2) X.A) (L : LamS X.env.scope scope) (hdef : defaultsOf params X.env = ([], []) := by rfl)
    (hbind : ∀ (q : Str) (cl : List (Str × Addr)) (pm cv ctv : Value), bindArgs (PySem.W.kla_fn "<lambda>" q params body scope cl pm cv ctv) ⟨[], []⟩ = pure [] := by intros; rfl)
    (hbody : ∀ (A : Around) (outer : List Env) (s : Shared) (H : Hp) (E : XK) (f c' : Addr), Room k (A.deeper (lamEnv X scope s.heap.objs.size f c')) → SE t (lamCx X A outer s H E scope f c') (fun cls d _ H' => E cls d H') body ce)
    (hde : (en == ("__debug__" : Str)) = false := by decide) (hdb : (x == ("__debug__" : Str)) = false := by decide) (hd : (a == ("__debug__" : Str)) = false := by decide) (hcd : (a == ("__classdict__" : Str)) = false := by decide) :
    SE t X W (.Call (.Name x p) [.Lambda params body scope lpos] [] pos) (cTold grab ret ce) := by
  obtain ⟨oc, od, kV, doc, pm, an, cdv, ct, osl, rfl, lk, hcg⟩ := FT.ex
  refine ⟨(pe_lamcall (T := t.T) (TT := TTold X.K CS ret) (t := fun E => tE X.K t (fun cls d _ H' => E cls d H') ce) hg hm FT.kp lk hcg hb Sg hNg hva (by rw [hsd]; exact told_gives hge hme hde h0) TB hcode hmT hu hr L hdef hbind (fun A outer s H E f c' hr' => (hbody A outer s H E f c' hr').pe) hdb hd hcd).imp fun σ H Q ⟨h, m, st, r, hR, he, hq⟩ => ⟨hR.tabs, fun H1 eN T1 => ?_⟩⟩
  have E1 := Ext.extN hR eN
  have R1 := hR.extN eN T1
  refine ⟨h, m, st, r, R1, he.mono E1, ?_⟩
  unfold cTold at hq
  revert hq
  cases ce r st with
  | ok v st1 => exact fun hq m' H' w e q1 q2 => hq m' H' w (E1.trans e) q1 q2
  | bad => exact fun hq => hq
  | exc i st1 =>
    intro hq m' H' C d e q1 q2
    dsimp only at hq
    refine ⟨grab i, hcat i C q2, fun hc => ?_, fun hc => ?_⟩
    · rw [hc, if_pos rfl] at hq
      exact hq m' H' _ (E1.trans e) q1 (.str _)
    · rw [hc, if_neg (by decide)] at hq
      exact hq
/-- a tuple or a list that nobody writes -/
def iAny (c : CE) : CI := fun r st => (c r st).bind fun x st1 => match x with
  | .tup xs => .ok xs st1
  | .lv xs => .ok xs st1
  | .fz xs => .ok xs st1
  | _ => .bad
theorem _root_.L2.PI.or {X : Cx} {tg e : Expr} {t t' : TI} (h : PI X tg e t) (h' : PI X tg e t') : PI X tg e (fun σ H R => t σ H R ∨ t' σ H R) := ⟨fun pins s σ H R I q => q.elim (h.run pins s σ H R I) (h'.run pins s σ H R I)⟩
theorem si_any {tg l : Expr} {cl : CE} (hl : SE t X W l cl) : SI t X W tg l (iAny cl) :=
  ⟨((si_tup hl).pi.or (si_lv hl).pi).imp fun σ H R ⟨h, m, st, r, hr, he, hq⟩ => by
    unfold iAny at hq
    cases e : cl r st with
    | bad => rw [e] at hq; exact hq.elim
    | exc c st1 => exact .inl ⟨h, m, st, r, hr, he, by unfold iSeq; rw [e] at hq ⊢; exact hq⟩
    | ok x st1 =>
      rw [e] at hq
      cases x with
      | tup xs => exact .inl ⟨h, m, st, r, hr, he, by unfold iSeq; rw [e]; exact hq⟩
      | lv xs => exact .inr ⟨h, m, st, r, hr, he, by unfold iLv; rw [e]; exact hq⟩
      | fz xs => exact .inr ⟨h, m, st, r, hr, he, by unfold iLv; rw [e]; exact hq⟩
      | _ => exact hq.elim⟩
theorem se_globI {x : Str} {v : V} {z : PV} (hg : Gl X x) (hm : ∃ u, X.mg x = some u ∧ RelV v u) (hz : ∀ h m H, RV (gd X t h) m H z v) (hd : (x == ("__debug__" : Str)) = false := by decide) : SE t X W (.Name x pos) (cK z) := by
  obtain ⟨u, h1, h2⟩ := hm
  exact se_glob hg h1 h2 hz hd
/-! ### y = [..] on one line -/
variable {i : Nat} {y : Str} {py spos : Pos} {elt tg iter : Expr} {ifs : List Expr} {scope : Scope} {own : List (Str × Nat)} {ci : CI} {g : TG} {nf : NF} {ct : CT} {ce : CE}
theorem ss_setLc (i : Nat) (hsw : swapsWith (.ListComp elt [⟨tg, iter, ifs, 0⟩] scope pos) (some (.Name y py)) spos.line X.env = pure true) (hc : X.calm = true) (hN : X.N.Nodup) (hi : SI t X W tg iter ci) (ok : BlkOk X.N X.env.scope scope own) (hf : NGf X.K g nf (own.map (·.2)))
    (hg : ∀ (s : Shared) (H : Hp) (C : Addr) (cl : List (Str × Addr)) (fp : List Addr), PG (X.blk s H scope (compEnvC scope cl C X.env) fp) tg g)
    (ht : ∀ (s : Shared) (H : Hp) (C : Addr) (cl : List (Str × Addr)) (fp : List Addr), STs t (X.blk s H scope (compEnvC scope cl C X.env) fp) noW ifs ct)
    (he : ∀ (s : Shared) (H : Hp) (C : Addr) (cl : List (Str × Addr)) (fp : List Addr), SE t (X.blk s H scope (compEnvC scope cl C X.env) fp) noW elt ce) (hy : X.N[i]? = some y := by rfl) (hyl : X.env.scope.names.lookup y = some .local := by rfl) (hs : ∀ x, foldedSetIterable iter X.env x = pure x := by intro _; rfl) :
    SS t X W (.Assign [.Name y py] (.ListComp elt [⟨tg, iter, ifs, 0⟩] scope pos) spos) (cAsg (cLc ci nf ct ce (own.map (·.2))) (Fw.gName i)) :=
  ⟨(ps_setLc hc hN hy hyl hsw hi.pi ok hg (fun s H C cl fp => (ht s H C cl fp).pt) (fun s H C cl fp => (he s H C cl fp).pe) hs).imp fun D σ H ⟨h, m, st, r, hr, hen, hq⟩ => by
    have hq2 : EO (gd X t h) (rV (gd X t h)) W σ m H (fun v H1 => D.nx (σ.set i (some v)) H1) (cLc ci nf ct ce (own.map (·.2)) r st) := SOk.bind hen hq fun x st1 m1 H1 v e1 r1 rx h1 => h1 m1 H1 _ r1.refl r1 ((hen.mono e1).set rx i)
    exact ⟨h, m, st, r, hr, hen, EO.bind hq2 fun xs st1 m1 H1 J e1 r1 hJ h1 D' hD => lc_loop (Q := fun v H1 => D.nx (σ.set i (some v)) H1) (fin := fun ys st2 => .ok (.lv ys) st2) r1 (hen.mono e1) hJ hD hf h1 fun m2 st2 H2 acc us E R hH ra K => K m2 H2 _ E R.show_ (.lv ⟨(R.hid D' List.mem_cons_self).1, (r1.outh hD).2⟩ hH (ra.monoH R.refl fun a ha => .inl (List.mem_cons_of_mem _ ha)))⟩⟩
theorem ss_setLcR (i : Nat) (hsw : swapsWith (.ListComp elt [⟨tg, iter, ifs, 0⟩] scope pos) (some (.Name y py)) spos.line X.env = pure true) (hc : X.calm = true) (hN : X.N.Nodup) (hi : SI t X W tg iter ci) (ok : BlkOk X.N X.env.scope scope own) (hf : NGf X.K g nf (own.map (·.2)))
    (hg : ∀ (s : Shared) (H : Hp) (C : Addr) (cl : List (Str × Addr)) (fp : List Addr), PG (X.blk s H scope (compEnvC scope cl C X.env) fp) tg g)
    (ht : ∀ (s : Shared) (H : Hp) (C : Addr) (cl : List (Str × Addr)) (fp : List Addr), STs t (X.blk s H scope (compEnvC scope cl C X.env) fp) noW ifs ct)
    (he : ∀ (s : Shared) (H : Hp) (C : Addr) (cl : List (Str × Addr)) (fp : List Addr), SE t (X.blk s H scope (compEnvC scope cl C X.env) fp) noW elt ce) (hy : X.N[i]? = some y := by rfl) (hyl : X.env.scope.names.lookup y = some .local := by rfl) (hs : ∀ x, foldedSetIterable iter X.env x = pure x := by intro _; rfl) :
    SS t X W (.Assign [.Name y py] (.ListComp elt [⟨tg, iter, ifs, 0⟩] scope pos) spos) (cAsg (cLcR ci nf ct ce (own.map (·.2))) (Fw.gName i)) :=
  ⟨(ps_setLc hc hN hy hyl hsw hi.pi ok hg (fun s H C cl fp => (ht s H C cl fp).pt) (fun s H C cl fp => (he s H C cl fp).pe) hs).imp fun D σ H ⟨h, m, st, r, hr, hen, hq⟩ => by
    have hq2 : EO (gd X t h) (rV (gd X t h)) W σ m H (fun v H1 => D.nx (σ.set i (some v)) H1) (cLcR ci nf ct ce (own.map (·.2)) r st) := SOk.bind hen hq fun x st1 m1 H1 v e1 r1 rx h1 => h1 m1 H1 _ r1.refl r1 ((hen.mono e1).set rx i)
    exact ⟨h, m, st, r, hr, hen, EO.bind hq2 fun xs st1 m1 H1 J e1 r1 hJ h1 D' hD => lc_loop (Q := fun v H1 => D.nx (σ.set i (some v)) H1) (fin := fun ys st2 => .ok (.ref st2.length) (st2 ++ [.lst ys])) r1 (hen.mono e1) hJ hD hf h1 fun m2 st2 H2 acc us E R hH ra K => cel_end r1 hD E R hH ra K⟩⟩
end
/-! ### operators at a place -/
def fAddN : Sto → PV → PV → Option PV := f2I fun i j => some (.int (i + j))
section
variable {K : PySem.W.Frag} {t : Tb}
theorem og_inadd : OpG K t rAdd fAddN := og_rI0 (g := fun i j => .int (i + j)) fun i j z e h m H => by cases e; exact .int _
theorem og_insub : OpG K t rSub fSub := og_rI0 (g := fun i j => .int (i - j)) fun i j z e h m H => by cases e; exact .int _
theorem og_ipsub : OpG K t (ipI fun i j => i - j) fSub := og_rI0 (g := fun i j => .int (i - j)) fun i j z e h m H => by cases e; exact .int _
end
end Fw
set_option Elab.async false
set_option linter.all false
set_option maxRecDepth 100000
set_option maxHeartbeats 4000000
/-! what a result must satisfy: rules by which simp reads the functions -/
namespace Fw
open PySem PySem.Spec PyProof.Rows L2 LamX
def Rs.sat {α : Type} (o : Rs α) (P : α → Sto → Prop) : Prop := match o with
  | .ok x s => P x s
  | _ => False
def Sr.sat (o : Sr) (N : Rho → Sto → Prop) (R : PV → Sto → Prop) : Prop := match o with
  | .nx r s => N r s
  | .rt v s => R v s
  | _ => False
section
variable {α β : Type}
theorem ite_and {c : Prop} [Decidable c] (A : Prop) : (if c then A else False) = (c ∧ A) := by by_cases h : c <;> simp [h]
@[simp] theorem sat_ok (x : α) (s : Sto) (P : α → Sto → Prop) : (Rs.ok x s).sat P = P x s := rfl
@[simp] theorem sat_bad (P : α → Sto → Prop) : (Rs.bad : Rs α).sat P = False := rfl
@[simp] theorem sat_exc (c : Nat) (s : Sto) (P : α → Sto → Prop) : (Rs.exc c s : Rs α).sat P = False := rfl
theorem sat_bind (o : Rs α) (k : α → Sto → Rs β) (P : β → Sto → Prop) : (o.bind k).sat P = o.sat fun x s => (k x s).sat P := by cases o <;> rfl
theorem sat_lift (o : Option α) (s : Sto) (P : α → Sto → Prop) : (Rs.lift o s).sat P = ∃ x, o = some x ∧ P x s := by cases o <;> simp [Rs.lift]
theorem sat_toS (o : Rs α) (r : Rho) (k : α → Sto → Sr) (N : Rho → Sto → Prop) (R : PV → Sto → Prop) : (o.toS r k).sat N R = o.sat fun x s => (k x s).sat N R := by cases o <;> rfl
theorem sat_toF (o : Sr) (P : PV → Sto → Prop) : (o.toF).sat P = o.sat (fun _ s => P .non s) P := by cases o <;> rfl
theorem Rs.sat.imp {o : Rs α} {P Q : α → Sto → Prop} (h : o.sat P) (f : ∀ x s, P x s → Q x s) : o.sat Q := by cases o <;> first | exact f _ _ h | exact h
theorem Sr.sat.imp {o : Sr} {N N' : Rho → Sto → Prop} {R R' : PV → Sto → Prop} (h : o.sat N R) (f : ∀ r s, N r s → N' r s) (g : ∀ r s, R r s → R' r s) : o.sat N' R' := by cases o <;> first | exact f _ _ h | exact g _ _ h | exact h
theorem Rs.sat.is {o : Rs α} {x : α} (h : o.sat fun y _ => y = x) : ∃ s, o = .ok x s := by
  cases o with
  | ok y s => exact ⟨s, by rw [show y = x from h]⟩
  | _ => exact h.elim
theorem sat_iteP {c : Prop} [Decidable c] (a b : Rs α) (P : α → Sto → Prop) : (if c then a else b).sat P = if c then a.sat P else b.sat P := by split <;> rfl
theorem ssat_ite {c : Prop} [Decidable c] (a b : Sr) (N : Rho → Sto → Prop) (R : PV → Sto → Prop) : (if c then a else b).sat N R = if c then a.sat N R else b.sat N R := by split <;> rfl
@[simp] theorem ssat_nx (r : Rho) (s : Sto) (N : Rho → Sto → Prop) (R : PV → Sto → Prop) : (Sr.nx r s).sat N R = N r s := rfl
@[simp] theorem ssat_rt (v : PV) (s : Sto) (N : Rho → Sto → Prop) (R : PV → Sto → Prop) : (Sr.rt v s).sat N R = R v s := rfl
@[simp] theorem ssat_bad (N : Rho → Sto → Prop) (R : PV → Sto → Prop) : (Sr.bad).sat N R = False := rfl
end
section
variable {r : Rho} {st : Sto} {P : PV → Sto → Prop} {PB : Bool → Sto → Prop} {PA : List PV → Sto → Prop} {PO : Option Int → Sto → Prop} {PR : Rho → Sto → Prop} {N : Rho → Sto → Prop} {R : PV → Sto → Prop}
@[simp ↓] theorem w_var (i : Nat) : (cVar i r st).sat P = (match r[i]? with
  | some (some x) => P x st
  | _ => False) := by
  unfold cVar
  rcases r[i]? with _ | _ | x <;> rfl
@[simp ↓] theorem w_K (x : PV) : (cK x r st).sat P = P x st := rfl
@[simp ↓] theorem w_bin (f) (a b : CE) : (cBin f a b r st).sat P = (a r st).sat fun x s => (b r s).sat fun y s2 => (match f s2 x y with
  | some z => P z s2
  | none => False) := by
  simp only [cBin, sat_bind]; congr 1; funext x s; congr 1; funext y s2
  cases f s2 x y <;> rfl
@[simp ↓] theorem w_un (f) (a : CE) : (cUn f a r st).sat P = (a r st).sat fun x s => (match f s x with
  | some z => P z s
  | none => False) := by
  simp only [cUn, sat_bind]; congr 1; funext x s
  cases f s x <;> rfl
@[simp ↓] theorem w_fn (f) (a : CA) : (cFn f a r st).sat P = (a r st).sat fun x s => (match f s x with
  | some z => P z s
  | none => False) := by
  simp only [cFn, sat_bind]; congr 1; funext x s
  cases f s x <;> rfl
@[simp ↓] theorem w_nil : (cNil r st).sat PA = PA [] st := rfl
@[simp ↓] theorem w_cons (a : CE) (b : CA) : (cCons a b r st).sat PA = (a r st).sat fun x s => (b r s).sat fun xs s2 => PA (x :: xs) s2 := by simp only [cCons, sat_bind, sat_ok]
@[simp ↓] theorem w_test (a : CE) : (cTest a r st).sat PB = (a r st).sat fun x s => (match x with
  | .bl b => PB b s
  | _ => False) := by
  simp only [cTest, sat_bind]
  congr 1; funext x s; cases x <;> rfl
@[simp ↓] theorem w_not (a : CT) : (cNot a r st).sat PB = (a r st).sat fun b s => PB (!b) s := by simp only [cNot, sat_bind, sat_ok]
@[simp ↓] theorem w_and (a b : CT) : (cAnd a b r st).sat PB = (a r st).sat fun x s => if x = true then (b r s).sat PB else PB false s := by simp only [cAnd, sat_bind, sat_iteP, sat_ok]
@[simp ↓] theorem w_or (a b : CT) : (cOr a b r st).sat PB = (a r st).sat fun x s => if x = true then PB true s else (b r s).sat PB := by simp only [cOr, sat_bind, sat_iteP, sat_ok]
@[simp ↓] theorem w_if (t : CT) (a b : CE) : (cIf t a b r st).sat P = (t r st).sat fun x s => if x = true then (a r s).sat P else (b r s).sat P := by simp only [cIf, sat_bind, sat_iteP]
@[simp ↓] theorem w_notV (a : CE) : (cNotV a r st).sat P = (a r st).sat fun x s => (match x with
  | .bl b => P (.bl (!b)) s
  | _ => False) := by
  simp only [cNotV, sat_bind]
  congr 1; funext x s; cases x <;> rfl
@[simp ↓] theorem w_andV (a b : CE) : (cAndV a b r st).sat P = (a r st).sat fun x s => (match x with
  | .bl q => if q = true then (b r s).sat P else P (.bl false) s
  | _ => False) := by
  simp only [cAndV, sat_bind]
  congr 1; funext x s
  cases x with
  | bl q => cases q <;> rfl
  | _ => rfl
@[simp ↓] theorem w_chain (f f') (a b c : CE) : (cChain f f' a b c r st).sat P = (a r st).sat fun x s1 => (b r s1).sat fun y s2 => (match f s2 x y with
  | some (.bl q) => if q = true then (c r s2).sat fun u s3 => (match f' s3 y u with
    | some z => P z s3
    | none => False) else P (.bl false) s2
  | _ => False) := by
  simp only [cChain, sat_bind]
  congr 1; funext x s1
  congr 1; funext y s2
  cases e : f s2 x y with
  | none => rfl
  | some z =>
    cases z with
    | bl q =>
      cases q with
      | false => rfl
      | true =>
        simp only [sat_bind, if_true]
        congr 1; funext u s3
        cases f' s3 y u <;> rfl
    | _ => rfl
@[simp ↓] theorem w_tup (a : CA) : (cTup a r st).sat P = (a r st).sat fun xs s => xs.length ≤ sizeLine ∧ P (.tup xs) s := by
  simp only [cTup, sat_bind, sat_iteP, sat_ok, sat_bad, ite_and]
@[simp ↓] theorem w_lst (a : CA) : (cLst a r st).sat P = (a r st).sat fun xs s => xs.length ≤ sizeLine ∧ P (.lv xs) s := by
  simp only [cLst, sat_bind, sat_iteP, sat_ok, sat_bad, ite_and]
@[simp ↓] theorem w_lstR (a : CA) : (cLstR a r st).sat P = (a r st).sat fun xs s => xs.length ≤ sizeLine ∧ P (.ref s.length) (s ++ [.lst xs]) := by
  simp only [cLstR, sat_bind, sat_iteP, sat_ok, sat_bad, ite_and]
@[simp ↓] theorem w_call (n dv cf) (ca : CA) : (cCall n dv cf ca r st).sat P = (ca r st).sat fun xs s => (xs ++ dv).length = n ∧ (cf (xs ++ dv) s).sat P := by
  simp only [cCall, sat_bind, sat_iteP, sat_bad, ite_and]
@[simp ↓] theorem w_meth (c n dv cf) (co : CE) (ca : CA) : (cMeth c n dv cf co ca r st).sat P = (co r st).sat fun o s1 => isIns s1 c o = true ∧ (ca r s1).sat fun xs s => (o :: (xs ++ dv)).length = n ∧ (cf (o :: (xs ++ dv)) s).sat P := by
  simp only [cMeth, sat_bind, sat_iteP, sat_bad, ite_and]
@[simp ↓] theorem w_BM (ty fm) (co : CE) (ca : CA) : (cBM ty fm co ca r st).sat P = (co r st).sat fun x s1 => ty s1 x = true ∧ (ca r s1).sat fun xs s2 => (match fm s2 x xs with
  | some z => P z.1 z.2
  | none => False) := by
  simp only [cBM, sat_bind, sat_iteP, sat_bad, ite_and]; congr 1; funext o s; congr 1; congr 1; funext xs s2
  cases e : fm s2 o xs <;> rfl
@[simp ↓] theorem w_oNone : (oNone r st).sat PO = PO none st := rfl
@[simp ↓] theorem w_oSome (c : CE) : (oSome c r st).sat PO = (c r st).sat fun x s => (match x with
  | .int i => PO (some i) s
  | _ => False) := by
  simp only [oSome, sat_bind]; congr 1; funext x s; cases x <;> rfl
@[simp ↓] theorem w_sl (f c lo hi) : (cSl f c lo hi r st).sat P = (c r st).sat fun x s1 => (lo r s1).sat fun l s2 => (hi r s2).sat fun u s3 => (match f s3 x l u with
  | some z => P z s3
  | none => False) := by
  simp only [cSl, sat_bind]; congr 1; funext x s1; congr 1; funext l s2; congr 1; funext u s3
  cases f s3 x l u <;> rfl
/-! statements -/
@[simp ↓] theorem w_seq (a b : CS) : (cSeq a b r st).sat N R = (a r st).sat (fun r s => (b r s).sat N R) R := by
  unfold cSeq
  cases e : a r st <;> simp [e, Sr.sat]
@[simp ↓] theorem w_next : (cNext r st).sat N R = N r st := rfl
@[simp ↓] theorem w_drop (c : CE) : (cDrop c r st).sat N R = (c r st).sat fun _ s => N r s := by simp only [cDrop, sat_toS, ssat_nx]
@[simp ↓] theorem w_ret (c : CE) : (cRet c r st).sat N R = (c r st).sat R := by simp only [cRet, sat_toS, ssat_rt]
@[simp ↓] theorem w_retN : (cRetN r st).sat N R = R .non st := rfl
@[simp ↓] theorem w_ifS (c : CT) (a b : CS) : (cIfS c a b r st).sat N R = (c r st).sat fun x s => if x = true then (a r s).sat N R else (b r s).sat N R := by simp only [cIfS, sat_toS, ssat_ite]
@[simp ↓] theorem w_asg (c : CE) (g : CG) : (cAsg c g r st).sat N R = (c r st).sat fun x s => (g x r s).sat N := by simp only [cAsg, sat_toS, ssat_nx]
@[simp ↓] theorem w_gName (i : Nat) (x : PV) : (gName i x r st).sat PR = PR (r.set i (some x)) st := rfl
@[simp ↓] theorem w_gSub (f) (co ci : CE) (x : PV) : (gSub f co ci x r st).sat PR = (co r st).sat fun o s1 => (ci r s1).sat fun i s2 => (match f s2 o i x with
  | some s3 => PR r s3
  | none => False) := by
  simp only [gSub, sat_bind]; congr 1; funext o s; congr 1; funext i s2
  cases e : f s2 o i x <;> rfl
@[simp ↓] theorem w_setF (c i : Nat) (co cv : CE) : (cSetF c i co cv r st).sat N R = (cv r st).sat fun x s1 => (co r s1).sat fun o s2 => (match fSetF c i s2 o x with
  | some s3 => N r s3
  | none => False) := by
  simp only [cSetF, sat_toS]; congr 1; funext x s; congr 1; funext o s2
  cases e : fSetF c i s2 o x <;> rfl
@[simp ↓] theorem w_augF (f) (c i : Nat) (co cv : CE) : (cAugF f c i co cv r st).sat N R = (co r st).sat fun o s1 => (match fGetF c i s1 o with
  | some y => (cv r s1).sat fun x s2 => (match f s2 y x with
    | some z => (match fSetF c i s2 o z with
      | some s3 => N r s3
      | none => False)
    | none => False)
  | none => False) := by
  simp only [cAugF, sat_toS]; congr 1; funext o s
  cases e : fGetF c i s o with
  | none => rfl
  | some y =>
    simp only [sat_toS]; congr 1; funext x s2
    cases e : f s2 y x with
    | none => rfl
    | some z =>
      simp only
      cases e : fSetF c i s2 o z <;> rfl
@[simp ↓] theorem w_augN (f) (i : Nat) (cv : CE) : (cAugN f i cv r st).sat N R = (match r[i]? with
  | some (some y) => (cv r st).sat fun x s2 => (match f s2 y x with
    | some z => N (r.set i (some z)) s2
    | none => False)
  | _ => False) := by
  unfold cAugN
  rcases r[i]? with _ | _ | y
  · rfl
  · rfl
  · simp only [sat_toS]; congr 1; funext x s2
    cases e : f s2 y x <;> rfl
@[simp ↓] theorem w_par (i j : Nat) (ca : CA) : (cPar i j ca r st).sat N R = (ca r st).sat fun xs s => (match xs with
  | [x, y] => N ((r.set i (some x)).set j (some y)) s
  | _ => False) := by
  simp only [cPar, sat_toS]; congr 1; funext xs s
  rcases xs with _ | ⟨x, _ | ⟨y, _ | ⟨z, t⟩⟩⟩ <;> rfl
@[simp ↓] theorem w_par3 (i j l : Nat) (ca : CA) : (cPar3 i j l ca r st).sat N R = (ca r st).sat fun xs s => (match xs with
  | [x, y, z] => N (((r.set i (some x)).set j (some y)).set l (some z)) s
  | _ => False) := by
  simp only [cPar3, sat_toS]; congr 1; funext xs s
  rcases xs with _ | ⟨x, _ | ⟨y, _ | ⟨z, _ | ⟨u, t⟩⟩⟩⟩ <;> rfl
@[simp ↓] theorem w_mkF (n : Nat) (b : CS) (xs : List PV) : (mkF n b xs st).sat P = (b (startR n xs) st).sat (fun _ s => P .non s) P := by simp only [mkF, sat_toF]
end
end Fw
namespace Fw
open PySem PySem.Spec PyProof.Rows L2 LamX
section
variable {r : Rho} {st : Sto} {P : PV → Sto → Prop} {PB : Bool → Sto → Prop} {PA : List PV → Sto → Prop} {PO : Option Int → Sto → Prop} {PR : Rho → Sto → Prop} {N : Rho → Sto → Prop} {R : PV → Sto → Prop}
@[simp ↓] theorem w_make (c nf n dv cf) (ca : CA) : (cMake c nf n dv cf ca r st).sat P = (ca r st).sat fun xs s => (xs ++ dv).length + 1 = n ∧ (cf (.ref s.length :: (xs ++ dv)) (s ++ [.ins c (List.replicate nf none)])).sat fun v s2 => (match v with
  | .non => P (.ref s.length) s2
  | _ => False) := by
  simp only [cMake, sat_bind, sat_iteP, sat_bad, ite_and]; congr 1; funext xs s; congr 2; funext v s2
  cases v <;> rfl
@[simp ↓] theorem w_yes : (cYes r st).sat PB = PB true st := rfl
@[simp ↓] theorem w_gTup (n : Nat) (gs : CGs) (x : PV) : (gTup n gs x r st).sat PR = (match x with
  | .tup xs => xs.length = n ∧ (gs xs r st).sat PR
  | _ => False) := by
  cases x <;> simp [gTup, sat_iteP, ite_and]
@[simp ↓] theorem w_gNil (xs : List PV) : (gNil xs r st).sat PR = (match xs with
  | [] => PR r st
  | _ => False) := by cases xs <;> rfl
theorem sat_quiet {α : Type} (o : Rs α) (Q : α → Sto → Prop) : o.quiet.sat Q = o.sat Q := by cases o <;> rfl
@[simp ↓] theorem w_gCons (g : CG) (gs : CGs) (xs : List PV) : (gCons g gs xs r st).sat PR = (match xs with
  | x :: ys => (g x r st).sat fun r1 s1 => (gs ys r1 s1).sat PR
  | _ => False) := by
  cases xs with
  | nil => rfl
  | cons x ys => simp only [gCons, sat_bind, sat_quiet]
theorem w_told (gr : Nat → Bool) (ret : Str) (c : CE) (h : (c r st).sat P) : (cTold gr ret c r st).sat P := by
  unfold cTold
  cases e : c r st with
  | ok x s => rw [e] at h; exact h
  | _ => rw [e] at h; exact h.elim
@[simp ↓] theorem w_any (c : CE) : (iAny c r st).sat PA = (c r st).sat fun x s => (match x with
  | .tup xs => PA xs s
  | .lv xs => PA xs s
  | .fz xs => PA xs s
  | _ => False) := by
  simp only [iAny, sat_bind]; congr 1; funext x s
  cases x <;> rfl
@[simp ↓] theorem w_range1 (ca : CA) : (iRange1 ca r st).sat PA = (ca r st).sat fun xs s => (match xs with
  | [.int j] => small62 j ∧ PA (intsR 0 j.toNat) s
  | _ => False) := by
  simp only [iRange1, sat_bind]; congr 1; funext xs s
  split <;> simp only [sat_iteP, sat_ok, sat_bad, ite_and]
@[simp ↓] theorem w_range2 (ca : CA) : (iRange2 ca r st).sat PA = (ca r st).sat fun xs s => (match xs with
  | [.int i, .int j] => (small62 i ∧ small62 j) ∧ PA (intsR i (j - i).toNat) s
  | _ => False) := by
  simp only [iRange2, sat_bind]; congr 1; funext xs s
  split <;> simp only [sat_iteP, sat_ok, sat_bad, ite_and]
@[simp ↓] theorem w_for (ci : CI) (g : CG) (b : CS) : (cFor ci g b r st).sat N R = (ci r st).sat fun xs s => (cForGo g b xs r s).sat N R := by simp only [cFor, sat_toS]
theorem for_inv {g : CG} {b : CS} (I : Nat → Rho → Sto → Prop) : ∀ (xs : List PV) (k : Nat) {r : Rho} {st : Sto}, I k r st → (∀ i x r s, xs[i]? = some x → I (k + i) r s → (g x r s).sat fun r1 s1 => (b r1 s1).sat (I (k + i + 1)) R) → (∀ r s, I (k + xs.length) r s → N r s) → (cForGo g b xs r st).sat N R
  | [], k, r, st, h, _, he => he r st h
  | x :: xs, k, r, st, h, hs, he => by
    unfold cForGo
    rw [sat_toS]
    refine (hs 0 x r st rfl h).imp fun r1 s1 q => ?_
    cases e : b r1 s1 with
    | nx r2 s2 =>
      rw [e] at q
      exact for_inv I xs (k + 1) (r := r2) (st := s2) q (fun i y r s hy hi => by have := hs (i + 1) y r s hy (by rw [show k + (i + 1) = k + 1 + i by omega]; exact hi); rw [show k + (i + 1) + 1 = k + 1 + i + 1 by omega] at this; exact this) (fun r s z => he r s (by rw [List.length_cons, show k + (xs.length + 1) = k + 1 + xs.length by omega]; exact z))
    | rt v s2 => rw [e] at q; exact q
    | _ => rw [e] at q; exact q.elim
@[simp ↓] theorem w_lc (ci : CI) (f : NF) (tt : CT) (ce : CE) (vs : List Nat) : (cLc ci f tt ce vs r st).sat P = (ci r st).sat fun xs s1 => (cLcGo f tt ce (wipeR r vs) xs [] s1).sat fun ys s2 => P (.lv ys) s2 := by simp only [cLc, sat_bind, sat_ok]
@[simp ↓] theorem w_lcR (ci : CI) (f : NF) (tt : CT) (ce : CE) (vs : List Nat) : (cLcR ci f tt ce vs r st).sat P = (ci r st).sat fun xs s1 => (cLcGo f tt ce (wipeR r vs) xs [] s1).sat fun ys s2 => P (.ref s2.length) (s2 ++ [.lst ys]) := by simp only [cLcR, sat_bind, sat_ok]
theorem lc_inv {f : NF} {tt : CT} {ce : CE} {r : Rho} (I : Nat → List PV → Sto → Prop) : ∀ (xs : List PV) (k : Nat) {acc : List PV} {st : Sto}, I k acc st →
    (∀ i x acc s, xs[i]? = some x → I (k + i) acc s → ∃ r1, f x r = some r1 ∧ (tt r1 s).sat fun b s1 => if b = true then (ce r1 s1).sat fun y s2 => acc.length < sizeLine ∧ I (k + i + 1) (acc ++ [y]) s2 else I (k + i + 1) acc s1) → (∀ acc s, I (k + xs.length) acc s → PA acc s) → (cLcGo f tt ce r xs acc st).sat PA
  | [], k, acc, st, h, _, he => he acc st h
  | x :: xs, k, acc, st, h, hs, he => by
    obtain ⟨r1, e1, q⟩ := hs 0 x acc st rfl h
    unfold cLcGo
    have hs' : ∀ i y acc s, xs[i]? = some y → I (k + 1 + i) acc s → ∃ r1, f y r = some r1 ∧ (tt r1 s).sat fun b s1 => if b = true then (ce r1 s1).sat fun y s2 => acc.length < sizeLine ∧ I (k + 1 + i + 1) (acc ++ [y]) s2 else I (k + 1 + i + 1) acc s1 := fun i y acc s hy hi => by
      have := hs (i + 1) y acc s hy (by rw [show k + (i + 1) = k + 1 + i by omega]; exact hi)
      rw [show k + (i + 1) + 1 = k + 1 + i + 1 by omega] at this
      exact this
    have he' : ∀ acc s, I (k + 1 + xs.length) acc s → PA acc s := fun r s z => he r s (by rw [List.length_cons, show k + (xs.length + 1) = k + 1 + xs.length by omega]; exact z)
    simp only [e1, sat_bind, sat_quiet, sat_iteP]
    refine q.imp fun b s1 q1 => ?_
    split at q1
    · rename_i hb
      rw [if_pos hb]
      refine q1.imp fun y s2 q2 => ?_
      rw [if_pos q2.1]
      exact lc_inv I xs (k + 1) q2.2 hs' he'
    · rename_i hb
      rw [if_neg hb]
      exact lc_inv I xs (k + 1) q1 hs' he'
end
/-! ### operations on known values -/
section
variable {st : Sto}
@[simp] theorem v_addI (i j : Int) : fAdd st (.int i) (.int j) = some (.int (i + j)) := rfl
@[simp] theorem v_subI (i j : Int) : fSub st (.int i) (.int j) = some (.int (i - j)) := rfl
@[simp] theorem vMod {i j : Int} (h : 0 < j) : fMod st (.int i) (.int j) = some (.int (i % j)) := if_pos h
@[simp] theorem vDiv {i j : Int} (h : 0 < j) (h2 : j < 2 ^ 64) : fDiv st (.int i) (.int j) = some (.int (i / j)) := if_pos ⟨h, h2⟩
@[simp] theorem vPow {i j : Int} (h : 0 ≤ j ∧ j ≤ 1000000 ∧ i.natAbs < 2 ^ 64) : fPow st (.int i) (.int j) = some (.int (i ^ j.toNat)) := if_pos h
@[simp] theorem v_addN (i j : Int) : fAddN st (.int i) (.int j) = some (.int (i + j)) := rfl
@[simp] theorem v_lt (i j : Int) : fLt st (.int i) (.int j) = some (.bl (decide (i < j))) := rfl
@[simp] theorem v_gt (i j : Int) : fGt st (.int i) (.int j) = some (.bl (decide (i > j))) := rfl
@[simp] theorem v_le (i j : Int) : fLe st (.int i) (.int j) = some (.bl (decide (i ≤ j))) := rfl
@[simp] theorem v_ge (i j : Int) : fGe st (.int i) (.int j) = some (.bl (decide (i ≥ j))) := rfl
@[simp] theorem v_eqI (i j : Int) : fEq st (.int i) (.int j) = some (.bl (decide (i = j))) := rfl
@[simp] theorem v_neI (i j : Int) : fNe st (.int i) (.int j) = some (.bl (!decide (i = j))) := rfl
@[simp] theorem v_eqS (i j : Str) : fEq st (.str i) (.str j) = some (.bl (decide (i = j))) := rfl
@[simp] theorem v_neS (i j : Str) : fNe st (.str i) (.str j) = some (.bl (!decide (i = j))) := rfl
@[simp] theorem v_int (i : Int) : fInt st [.int i] = some (.int i) := rfl
@[simp] theorem v_intB (b : Bool) : fInt st [.bl b] = some (.int (if b then 1 else 0)) := rfl
@[simp] theorem v_abs (i : Int) : fAbs st [.int i] = some (.int (if i < 0 then -i else i)) := rfl
end
end Fw
namespace Fw
open PySem PySem.Spec PyProof.Rows L2 LamX
section
variable {st : Sto}
@[simp] theorem startR_def (n : Nat) (xs : List PV) : startR n xs = xs.map some ++ List.replicate (n - xs.length) none := rfl
@[simp] theorem vMul {i j : Int} (h : (-(2 ^ 64) < i ∧ i < 2 ^ 64) ∨ (-(2 ^ 64) < j ∧ j < 2 ^ 64)) : fMulI st (.int i) (.int j) = some (.int (i * j)) := if_pos h
@[simp] theorem atI_0 {α : Type} (x : α) (xs : List α) : L2.atI (x :: xs) 0 = some x := by
  have : (0 : Int) < (xs.length : Int) + 1 := by omega
  simp [L2.atI, ixN, this]
theorem atI_at {α : Type} {xs : List α} {i : Nat} {x : α} (h : xs[i]? = some x) : L2.atI xs (i : Nat) = some x := by
  have h1 := (List.getElem?_eq_some_iff.mp h).1
  have h2 : (i : Int) < (xs.length : Int) := by omega
  simp [L2.atI, ixN, h2, h]
@[simp] theorem atI_1 {α : Type} (x y : α) (xs : List α) : L2.atI (x :: y :: xs) 1 = some y := atI_at (i := 1) rfl
@[simp] theorem atI_2 {α : Type} (x y z : α) (xs : List α) : L2.atI (x :: y :: z :: xs) 2 = some z := atI_at (i := 2) rfl
theorem v_ixL {d : Nat} {xs : List PV} (h : st[d]? = some (.lst xs)) (i : Int) : fIx st (.ref d) (.int i) = L2.atI xs i := by simp [fIx, seqOf, listOf, h]
theorem v_setL {d : Nat} {xs : List PV} (h : st[d]? = some (.lst xs)) {i : Int} {n : Nat} (x : PV) (hi : ixN xs.length i = some n) : sList st (.ref d) (.int i) x = some (st.set d (.lst (xs.set n x))) := by simp [sList, celL, h, hi]
theorem get_set_self {d : Nat} {c c0 : Cel} (h : st[d]? = some c0) : (st.set d c)[d]? = some c := by
  rw [List.getElem?_set_self (List.getElem?_eq_some_iff.mp h).1]
def celR (st : Sto) (d : Nat) : Option (List PV) := match st[d]? with
  | some (.lst xs) => some xs
  | _ => none
theorem celR_of {d : Nat} {xs : List PV} (h : st[d]? = some (.lst xs)) : celR st d = some xs := by simp [celR, h]
theorem celR_inv {d : Nat} {xs : List PV} (h : celR st d = some xs) : st[d]? = some (.lst xs) := by
  unfold celR at h
  split at h
  · rename_i ys e; cases h; exact e
  · cases h
theorem celR_set (d : Nat) (xs ys : List PV) (h : celR st d = some ys) : celR (st.set d (.lst xs)) d = some xs := celR_of (get_set_self (celR_inv h))
theorem celR_ne {d e : Nat} {c : Cel} (h : e ≠ d) : celR (st.set e c) d = celR st d := by unfold celR; rw [List.getElem?_set_ne h]
@[simp] theorem v_ixR (d : Nat) (i : Int) : fIx st (.ref d) (.int i) = (celR st d).bind fun xs => L2.atI xs i := by
  cases e : st[d]? with
  | none => simp [celR, fIx, seqOf, listOf, e]
  | some c => cases c <;> simp [celR, fIx, seqOf, listOf, e]
@[simp] theorem v_setR (d : Nat) (i : Int) (x : PV) : sList st (.ref d) (.int i) x = (celR st d).bind fun xs => (ixN xs.length i).map fun n => st.set d (.lst (xs.set n x)) := by
  cases e : st[d]? with
  | none => simp [celR, sList, celL, e]
  | some c =>
    cases c with
    | lst xs => cases e2 : ixN xs.length i <;> simp [celR, sList, celL, e, e2]
    | _ => simp [celR, sList, celL, e]
@[simp] theorem v_lenR (d : Nat) : fLen st [.ref d] = (celR st d).map fun xs => .int xs.length := by
  cases e : st[d]? with
  | none => simp [celR, fLen, seqOf, listOf, e]
  | some c => cases c <;> simp [celR, fLen, seqOf, listOf, e]
end
end Fw
set_option Elab.async false
set_option linter.all false
set_option maxRecDepth 100000
set_option maxHeartbeats 4000000
/-! plain data and ==; instances; pieces of lists -/
namespace Fw
open PySem PySem.Spec PyProof.Rows L2 LamX
inductive Pl : Nat → PV → Prop where
  | non (n : Nat) : Pl n .non
  | bl (n : Nat) (b : Bool) : Pl n (.bl b)
  | int (n : Nat) (i : Int) : Pl n (.int i)
  | str (n : Nat) (x : Str) : PyData.strOk x = true → Pl n (.str x)
  | tup (n : Nat) (xs : List PV) : (∀ x ∈ xs, Pl n x) → Pl (n + 1) (.tup xs)
  | lv (n : Nat) (xs : List PV) : (∀ x ∈ xs, Pl n x) → Pl (n + 1) (.lv xs)
  | fz (n : Nat) (xs : List PV) : (∀ x ∈ xs, Pl n x) → Pl (n + 1) (.fz xs)
structure PD (n : Nat) (x : PV) (d : PyData) : Prop where
  e : ∀ lk, dOf lk x = some d
  lay : d.canLay0 = true
  dep : d.depth ≤ n
theorem pd_list {n : Nat} : ∀ {xs : List PV}, (∀ x ∈ xs, ∃ d, PD n x d) → ∃ ds : List PyData, (∀ lk, dOfs lk xs = some ds) ∧ PyData.canLayAll0 ds = true ∧ PyData.depthAll ds ≤ n ∧ ds.length = xs.length
  | [], _ => ⟨[], fun _ => rfl, rfl, Nat.zero_le _, rfl⟩
  | x :: xs, h => by
    obtain ⟨d, hd⟩ := h x (List.mem_cons_self ..)
    obtain ⟨ds, e, l, p, n⟩ := pd_list (xs := xs) fun y hy => h y (List.mem_cons_of_mem _ hy)
    refine ⟨d :: ds, fun lk => by simp [dOfs, hd.e lk, e lk], by simp [PyData.canLayAll0, hd.lay, l], ?_, by simp [n]⟩
    show max d.depth (PyData.depthAll ds) ≤ _
    exact Nat.max_le.mpr ⟨hd.dep, p⟩
theorem Pl.pd : ∀ {n : Nat} {x : PV}, Pl n x → ∃ d, PD n x d := fun {n x} h => by
  induction h with
  | non => exact ⟨.none, fun _ => rfl, rfl, Nat.zero_le _⟩
  | bl n b => exact ⟨.bool b, fun _ => rfl, rfl, Nat.zero_le _⟩
  | int n i => exact ⟨.int i, fun _ => rfl, rfl, Nat.zero_le _⟩
  | str n x hx => exact ⟨.str x, fun _ => rfl, hx, Nat.zero_le _⟩
  | tup n xs _ ih =>
    obtain ⟨ds, e, l, p, _⟩ := pd_list ih
    exact ⟨.tuple ds, fun lk => by simp [dOf, e lk], l, Nat.succ_le_succ p⟩
  | lv n xs _ ih =>
    obtain ⟨ds, e, l, p, _⟩ := pd_list ih
    exact ⟨.list ds, fun lk => by simp [dOf, e lk], l, Nat.succ_le_succ p⟩
  | fz n xs _ ih =>
    obtain ⟨ds, e, l, p, _⟩ := pd_list ih
    exact ⟨.list ds, fun lk => by simp [dOf, e lk], l, Nat.succ_le_succ p⟩
theorem PD.sh {n : Nat} {x : PV} {d : PyData} (h : PD n x d) (hn : n ≤ 64) : SeqAt.shaped d = true := by
  unfold SeqAt.shaped
  rw [h.lay, decide_eq_true (Nat.le_trans h.dep hn)]
  rfl
/-- x's data in the store (a value, or a list's cell) -/
def toD_is (st : Sto) (x : PV) (d : PyData) : Prop := toD st x = some d ∧ SeqAt.shaped d = true
theorem eq_data {st : Sto} {x y : PV} {d e : PyData} (hx : toD_is st x d) (hy : toD_is st y e) : eqB st x y = some (PyData.eqv d e) := by
  have gen : (match toD st x, toD st y with
    | some d, some e => if SeqAt.shaped d = true ∧ SeqAt.shaped e = true then some (PyData.eqv d e) else none
    | _, _ => none) = some (PyData.eqv d e) := by
    rw [hx.1, hy.1]; simp [hx.2, hy.2]
  unfold eqB
  split
  · rename_i i j; have h1 := hx.1; have h2 := hy.1; simp [toD, dOf] at h1 h2; rw [← h1, ← h2]; simp [PyData.eqv]; rfl
  · rename_i i j; have h1 := hx.1; have h2 := hy.1; simp [toD, dOf] at h1 h2; rw [← h1, ← h2]; simp [PyData.eqv]; rfl
  · rename_i i j; have h1 := hx.1; have h2 := hy.1; simp [toD, dOf] at h1 h2; rw [← h1, ← h2]; simp [PyData.eqv]; cases i <;> cases j <;> rfl
  · have h1 := hx.1; have h2 := hy.1; simp [toD, dOf] at h1 h2; rw [← h1, ← h2]; rfl
  · exact gen
theorem toD_pl {n : Nat} {st : Sto} {x : PV} (h : Pl n x) (hn : n ≤ 64) : ∃ d, toD_is st x d := by
  obtain ⟨d, hd⟩ := h.pd
  exact ⟨d, hd.e _, hd.sh hn⟩
theorem toD_cell {n : Nat} {st : Sto} {w : Nat} {ys : List PV} (h : celR st w = some ys) (hp : ∀ y ∈ ys, Pl n y) (hn : n ≤ 63) : ∃ ds : List PyData, (∀ lk, dOfs lk ys = some ds) ∧ SeqAt.shaped (.list ds) = true ∧ toD st (.ref w) = some (.list ds) ∧ ds.length = ys.length := by
  obtain ⟨ds, e, l, p, q⟩ := pd_list fun y hy => (hp y hy).pd
  refine ⟨ds, e, ?_, ?_, q⟩
  · show (PyData.canLayAll0 ds && decide (PyData.depthAll ds + 1 ≤ 64)) = true
    rw [l, decide_eq_true (by omega)]; rfl
  · simp [toD, dOf, lkN, celR_inv h, e]
theorem eqv_self {d : PyData} (h : SeqAt.shaped d = true) : PyData.eqv d d = true := SeqAt.eqv_refl d (SeqAt.canLay_of_shaped h)
theorem eqB_pl {n : Nat} {st : Sto} {x : PV} (h : Pl n x) (hn : n ≤ 64) : eqB st x x = some true := by
  obtain ⟨d, hd⟩ := toD_pl (st := st) h hn
  rw [eq_data hd hd, eqv_self hd.2]
theorem eqB_cells {n : Nat} {st : Sto} {w v : Nat} {ys : List PV} (h : celR st w = some ys) (h2 : celR st v = some ys) (hp : ∀ y ∈ ys, Pl n y) (hn : n ≤ 63) : eqB st (.ref w) (.ref v) = some true := by
  obtain ⟨ds, e, s, t, _⟩ := toD_cell h hp hn
  obtain ⟨ds', e', s', t', _⟩ := toD_cell h2 hp hn
  have : ds = ds' := Option.some.inj ((e fun _ => none).symm.trans (e' fun _ => none))
  subst this
  rw [eq_data ⟨t, s⟩ ⟨t', s'⟩, eqv_self s]
theorem eqB_cell_nil {n : Nat} {st : Sto} {w : Nat} {ys : List PV} (h : celR st w = some ys) (hp : ∀ y ∈ ys, Pl n y) (hn : n ≤ 63) : eqB st (.ref w) (.lv []) = some (decide (ys = [])) := by
  obtain ⟨ds, e, s, t, q⟩ := toD_cell h hp hn
  rw [eq_data ⟨t, s⟩ (show toD_is st (.lv []) (.list []) from ⟨rfl, rfl⟩)]
  cases ds with
  | nil => have : ys = [] := List.eq_nil_of_length_eq_zero q.symm; simp [this, PyData.eqv, PyData.eqvAll]
  | cons d ds =>
    have : ys ≠ [] := fun z => by rw [z] at q; simp at q
    simp [this, PyData.eqv, PyData.eqvAll]
theorem eqB_tup_nil {n : Nat} {st : Sto} {ys : List PV} (hp : ∀ y ∈ ys, Pl n y) (hn : n ≤ 63) : eqB st (.tup ys) (.tup []) = some (decide (ys = [])) := by
  obtain ⟨ds, e, l, p, q⟩ := pd_list fun y hy => (hp y hy).pd
  have s : SeqAt.shaped (.tuple ds) = true := by
    show (PyData.canLayAll0 ds && decide (PyData.depthAll ds + 1 ≤ 64)) = true
    rw [l, decide_eq_true (by omega)]; rfl
  rw [eq_data (show toD_is st (.tup ys) (.tuple ds) from ⟨by simp [toD, dOf, e], s⟩) (show toD_is st (.tup []) (.tuple []) from ⟨rfl, rfl⟩)]
  cases ds with
  | nil => have : ys = [] := List.eq_nil_of_length_eq_zero q.symm; simp [this, PyData.eqv, PyData.eqvAll]
  | cons d ds =>
    have : ys ≠ [] := fun z => by rw [z] at q; simp at q
    simp [this, PyData.eqv, PyData.eqvAll]
theorem eqB_lv_nil {n : Nat} {st : Sto} {ys : List PV} (hp : ∀ y ∈ ys, Pl n y) (hn : n ≤ 63) : eqB st (.lv ys) (.lv []) = some (decide (ys = [])) := by
  obtain ⟨ds, e, l, p, q⟩ := pd_list fun y hy => (hp y hy).pd
  have s : SeqAt.shaped (.list ds) = true := by
    show (PyData.canLayAll0 ds && decide (PyData.depthAll ds + 1 ≤ 64)) = true
    rw [l, decide_eq_true (by omega)]; rfl
  rw [eq_data (show toD_is st (.lv ys) (.list ds) from ⟨by simp [toD, dOf, e], s⟩) (show toD_is st (.lv []) (.list []) from ⟨rfl, rfl⟩)]
  cases ds with
  | nil => have : ys = [] := List.eq_nil_of_length_eq_zero q.symm; simp [this, PyData.eqv, PyData.eqvAll]
  | cons d ds =>
    have : ys ≠ [] := fun z => by rw [z] at q; simp at q
    simp [this, PyData.eqv, PyData.eqvAll]
theorem v_fEq (st : Sto) (x y : PV) : fEq st x y = (eqB st x y).map .bl := rfl
theorem v_fNe (st : Sto) (x y : PV) : fNe st x y = (eqB st x y).map fun b => .bl (!b) := rfl
/-! instances -/
section
variable {st : Sto}
def insR (st : Sto) (c : Nat) (d : Nat) : Option (List (Option PV)) := match st[d]? with
  | some (.ins c' fs) => if c' = c then some fs else none
  | _ => none
theorem insR_of {c d : Nat} {fs : List (Option PV)} (h : st[d]? = some (.ins c fs)) : insR st c d = some fs := by simp [insR, h]
theorem insR_inv {c d : Nat} {fs : List (Option PV)} (h : insR st c d = some fs) : st[d]? = some (.ins c fs) := by
  unfold insR at h
  split at h
  · rename_i c' ys e
    split at h
    · rename_i q; cases h; rw [← q]; exact e
    · cases h
  · cases h
theorem insR_set {c d : Nat} (fs : List (Option PV)) {gs : List (Option PV)} (h : insR st c d = some gs) : insR (st.set d (.ins c fs)) c d = some fs := insR_of (get_set_self (insR_inv h))
theorem insR_ne {c d e : Nat} {x : Cel} (h : e ≠ d) : insR (st.set e x) c d = insR st c d := by unfold insR; rw [List.getElem?_set_ne h]
theorem celR_lt {d : Nat} {xs : List PV} (h : celR st d = some xs) : d < st.length := (List.getElem?_eq_some_iff.mp (celR_inv h)).1
theorem insR_lt {c d : Nat} {xs : List (Option PV)} (h : insR st c d = some xs) : d < st.length := (List.getElem?_eq_some_iff.mp (insR_inv h)).1
theorem cel_ins {c d e : Nat} {xs : List PV} {fs : List (Option PV)} (h : celR st d = some xs) (k : insR st c e = some fs) : d ≠ e := fun z => by
  have h1 := celR_inv h
  have h2 := insR_inv k
  rw [z, h2] at h1
  cases h1
theorem celR_app {d : Nat} {c : Cel} {xs : List PV} (h : celR st d = some xs) : celR (st ++ [c]) d = some xs := celR_of (by rw [List.getElem?_append_left (celR_lt h)]; exact celR_inv h)
theorem insR_app {k d : Nat} {c : Cel} {xs : List (Option PV)} (h : insR st k d = some xs) : insR (st ++ [c]) k d = some xs := insR_of (by rw [List.getElem?_append_left (insR_lt h)]; exact insR_inv h)
@[simp] theorem celR_new (xs : List PV) : celR (st ++ [.lst xs]) st.length = some xs := celR_of (by simp)
@[simp] theorem insR_new (c : Nat) (xs : List (Option PV)) : insR (st ++ [.ins c xs]) c st.length = some xs := insR_of (by simp)
@[simp] theorem v_getF (c i d : Nat) : fGetF c i st (.ref d) = (insR st c d).bind fun fs => (fs[i]?).join := by
  cases e : st[d]? with
  | none => simp [insR, fGetF, e]
  | some x =>
    cases x with
    | ins c' fs => by_cases h : c' = c <;> simp [insR, fGetF, e, h]
    | _ => simp [insR, fGetF, e]
@[simp] theorem v_setF (c i d : Nat) (x : PV) : fSetF c i st (.ref d) x = (insR st c d).bind fun fs => if i < fs.length then some (st.set d (.ins c (fs.set i (some x)))) else none := by
  cases e : st[d]? with
  | none => simp [insR, fSetF, e]
  | some y =>
    cases y with
    | ins c' fs => by_cases h : c' = c <;> simp [insR, fSetF, e, h]
    | _ => simp [insR, fSetF, e]
@[simp] theorem v_isIns (c d : Nat) : isIns st c (.ref d) = (insR st c d).isSome := by
  cases e : st[d]? with
  | none => simp [insR, isIns, e]
  | some y =>
    cases y with
    | ins c' fs => by_cases h : c' = c <;> simp [insR, isIns, e, h]
    | _ => simp [insR, isIns, e]
@[simp] theorem v_isList (d : Nat) : isList st (.ref d) = (celR st d).isSome := by
  cases e : st[d]? with
  | none => simp [celR, isList, e]
  | some y => cases y <;> simp [celR, isList, e]
@[simp] theorem v_append (d : Nat) (x : PV) : mAppend st (.ref d) [x] = (celR st d).bind fun xs => if xs.length < sizeLine then some (.non, st.set d (.lst (xs ++ [x]))) else none := by
  cases e : st[d]? with
  | none => simp [celR, mAppend, celL, e]
  | some y => cases y <;> simp [celR, mAppend, celL, e]
theorem v_popAt {d : Nat} {xs : List PV} {j : Nat} {y : PV} (h : celR st d = some xs) (hj : xs[j]? = some y) (hl : (j : Int) < 2 ^ 63) : mPopAt st (.ref d) [.int (j : Int)] = some (y, st.set d (.lst (xs.eraseIdx j))) := by
  have h1 := (List.getElem?_eq_some_iff.mp hj).1
  have e : ixN xs.length (j : Int) = some j := by
    have : (j : Int) < (xs.length : Int) := by omega
    simp [ixN, this]
  have e2 := (ixN_seq e).1
  have h2 : -(2 ^ 63) ≤ (j : Int) ∧ (j : Int) < 2 ^ 63 := ⟨by omega, hl⟩
  simp only [mPopAt, celL, celR_inv h, if_pos h2, e2, hj]
theorem v_inT (x : PV) (ys : List PV) : inB st x (.tup ys) = if flatP x = true ∧ ys.all flatP = true then some (ys.any fun y => eqP y x) else none := by
  unfold inB
  split
  · rename_i h; cases h
  · rfl
theorem v_inL (x : PV) (ys : List PV) : inB st x (.lv ys) = if flatP x = true ∧ ys.all flatP = true then some (ys.any fun y => eqP y x) else none := by
  unfold inB
  split
  · rename_i h; cases h
  · rfl
@[simp] theorem v_fInT (x : PV) (ys : List PV) : fIn st x (.tup ys) = (if flatP x = true ∧ ys.all flatP = true then some (ys.any fun y => eqP y x) else none).map .bl := by unfold fIn; rw [v_inT]
@[simp] theorem v_fInL (x : PV) (ys : List PV) : fIn st x (.lv ys) = (if flatP x = true ∧ ys.all flatP = true then some (ys.any fun y => eqP y x) else none).map .bl := by unfold fIn; rw [v_inL]
@[simp] theorem v_fNotInT (x : PV) (ys : List PV) : fNotIn st x (.tup ys) = (if flatP x = true ∧ ys.all flatP = true then some (ys.any fun y => eqP y x) else none).map fun b => .bl (!b) := by unfold fNotIn; rw [v_inT]
@[simp] theorem v_fNotInL (x : PV) (ys : List PV) : fNotIn st x (.lv ys) = (if flatP x = true ∧ ys.all flatP = true then some (ys.any fun y => eqP y x) else none).map fun b => .bl (!b) := by unfold fNotIn; rw [v_inL]
@[simp] theorem le_size {n : Nat} (h : n ≤ 1000000) : n ≤ sizeLine := Nat.le_trans h (by decide)
@[simp] theorem lt_size {n : Nat} (h : n ≤ 1000000) : n < sizeLine := Nat.lt_of_le_of_lt h (by decide)
@[simp] theorem eqP_int (i j : Int) : eqP (.int i) (.int j) = (i == j) := rfl
@[simp] theorem eqP_str (i j : Str) : eqP (.str i) (.str j) = (i == j) := rfl
@[simp] theorem flatP_int (i : Int) : flatP (.int i) = true := rfl
@[simp] theorem flatP_str (i : Str) : flatP (.str i) = true := rfl
@[simp] theorem v_ixT (xs : List PV) (i : Int) : fIx st (.tup xs) (.int i) = L2.atI xs i := rfl
@[simp] theorem v_ixLv (xs : List PV) (i : Int) : fIx st (.lv xs) (.int i) = L2.atI xs i := rfl
@[simp] theorem v_lenT (xs : List PV) : fLen st [.tup xs] = some (.int xs.length) := rfl
@[simp] theorem v_lenLv (xs : List PV) : fLen st [.lv xs] = some (.int xs.length) := rfl
@[simp] theorem v_tupleT (xs : List PV) : fTuple st [.tup xs] = some (.tup xs) := rfl
@[simp] theorem v_tupleLv (xs : List PV) : fTuple st [.lv xs] = some (.tup xs) := rfl
@[simp] theorem v_slT (xs : List PV) (a b) : fSl st (.tup xs) a b = some (.tup (cutL xs a b)) := rfl
@[simp] theorem v_addT (xs ys : List PV) : fAdd st (.tup xs) (.tup ys) = if xs.length + ys.length ≤ sizeLine then some (.tup (xs ++ ys)) else none := rfl
theorem cutL_take {α : Type} (xs : List α) (n : Nat) (h : n ≤ xs.length) : cutL xs none (some (n : Int)) = xs.take n := by
  have h1 : ¬ (n : Int) < 0 := by omega
  have h2 : min n xs.length = n := by omega
  simp [cutL, HT.sIx, h1, h2]
theorem cutL_drop {α : Type} (xs : List α) (n : Nat) (h : n ≤ xs.length) : cutL xs (some (n : Int)) none = xs.drop n := by
  have h1 : ¬ (n : Int) < 0 := by omega
  have h2 : min n xs.length = n := by omega
  simp [cutL, HT.sIx, h1, h2]
  exact List.take_of_length_le (by simp)
theorem told_exc {gr : Nat → Bool} {ret : Str} {c : CE} {r : Rho} {st s : Sto} {i : Nat} (h : c r st = .exc i s) (g : gr i = true) (P : PV → Sto → Prop) : (cTold gr ret c r st).sat P = P (.str ret) s := by
  unfold cTold
  rw [h]
  simp [g]
theorem for_one {g : CG} {b : CS} {x : PV} {r : Rho} {st : Sto} {N : Rho → Sto → Prop} {R : PV → Sto → Prop} (h : (g x r st).sat fun r1 s1 => (b r1 s1).sat N R) : (cForGo g b [x] r st).sat N R := by
  unfold cForGo
  rw [sat_toS]
  refine h.imp fun r1 s1 q => ?_
  cases e : b r1 s1 <;> rw [e] at q <;> first | exact q | exact q.elim
end
end Fw
set_option Elab.async false
set_option linter.all false
set_option maxRecDepth 100000
set_option maxHeartbeats 400000
namespace G04
open PySem PySem.Spec PyProof.Rows L2 Fw
def top (i : Nat) : Stmt := PySem.Challenge.pw_wirestack_k04_links_that_lose_and_bend.main.body.getD i (.Pass ⟨0, 0, 0, 0⟩)
abbrev s_law_dice : Stmt := top 11
abbrev n_law_dice : List Str := ["cell"]
theorem sc_law_dice : FnScope n_law_dice ["cell"] (defScope s_law_dice) := ⟨rfl, rfl, rfl, by decide +kernel, rfl, by decide +kernel, by decide +kernel⟩
abbrev s_law_rounds : Stmt := top 13
abbrev n_law_rounds : List Str := ["script", "most", "cells", "cell"]
theorem sc_law_rounds : FnScope n_law_rounds ["script", "most"] (defScope s_law_rounds) := ⟨rfl, rfl, rfl, by decide +kernel, rfl, by decide +kernel, by decide +kernel⟩
abbrev s_Link_init : Stmt := inClass (top 8) 0
abbrev n_Link_init : List Str := ["self", "first", "second", "room"]
theorem sc_Link_init : FnScope n_Link_init ["self", "first", "second", "room"] (defScope s_Link_init) := ⟨rfl, rfl, rfl, by decide +kernel, rfl, by decide +kernel, by decide +kernel⟩
abbrev s_Link_other : Stmt := inClass (top 8) 1
abbrev n_Link_other : List Str := ["self", "name"]
theorem sc_Link_other : FnScope n_Link_other ["self", "name"] (defScope s_Link_other) := ⟨rfl, rfl, rfl, by decide +kernel, rfl, by decide +kernel, by decide +kernel⟩
abbrev s_Link_send : Stmt := inClass (top 8) 2
abbrev n_Link_send : List Str := ["self", "name", "data", "target"]
theorem sc_Link_send : FnScope n_Link_send ["self", "name", "data"] (defScope s_Link_send) := ⟨rfl, rfl, rfl, by decide +kernel, rfl, by decide +kernel, by decide +kernel⟩
abbrev s_law_roll : Stmt := top 12
abbrev n_law_roll : List Str := ["dice", "many", "found"]
theorem sc_law_roll : FnScope n_law_roll ["dice", "many"] (defScope s_law_roll) := ⟨rfl, rfl, rfl, by decide +kernel, rfl, by decide +kernel, by decide +kernel⟩
abbrev s_bent_bytes : Stmt := top 9
abbrev n_bent_bytes : List Str := ["data", "spot", "change", "byte"]
theorem sc_bent_bytes : FnScope n_bent_bytes ["data", "spot", "change"] (defScope s_bent_bytes) := ⟨rfl, rfl, rfl, by decide +kernel, rfl, by decide +kernel, by decide +kernel⟩
abbrev s_law_bent : Stmt := top 15
abbrev n_law_bent : List Str := ["data", "spot", "change", "byte"]
theorem sc_law_bent : FnScope n_law_bent ["data", "spot", "change"] (defScope s_law_bent) := ⟨rfl, rfl, rfl, by decide +kernel, rfl, by decide +kernel, by decide +kernel⟩
abbrev s_Link_act : Stmt := inClass (top 8) 4
abbrev n_Link_act : List Str := ["self", "choice", "many", "place", "deed", "target", "data", "bent", "spot", "change"]
theorem sc_Link_act : FnScope n_Link_act ["self", "choice"] (defScope s_Link_act) := ⟨rfl, rfl, rfl, by decide +kernel, rfl, by decide +kernel, by decide +kernel⟩
abbrev s_Link_set_up : Stmt := inClass (top 8) 3
abbrev n_Link_set_up : List Str := ["self", "up"]
theorem sc_Link_set_up : FnScope n_Link_set_up ["self", "up"] (defScope s_Link_set_up) := ⟨rfl, rfl, rfl, by decide +kernel, rfl, by decide +kernel, by decide +kernel⟩
abbrev s_Link_next : Stmt := inClass (top 8) 5
abbrev n_Link_next : List Str := ["self", "target", "data", "bent"]
theorem sc_Link_next : FnScope n_Link_next ["self"] (defScope s_Link_next) := ⟨rfl, rfl, rfl, by decide +kernel, rfl, by decide +kernel, by decide +kernel⟩
abbrev s_law : Stmt := top 16
abbrev n_law : List Str := ["script", "dice", "link", "way", "lost", "arrived", "up", "step", "sort", "end", "data", "k", "choice", "due", "place", "rest", "target", "bent", "deed", "spot", "change"]
theorem sc_law : FnScope n_law ["script"] (defScope s_law) := ⟨rfl, rfl, rfl, by decide +kernel, rfl, by decide +kernel, by decide +kernel⟩
abbrev s_law_told : Stmt := top 14
abbrev n_law_told : List Str := ["what"]
theorem sc_law_told : FnScope n_law_told ["what"] (defScope s_law_told) := ⟨rfl, rfl, rfl, by decide +kernel, rfl, by decide +kernel, by decide +kernel⟩
abbrev k_Link : List Str := ["first", "second", "room", "up", "on_way", "lost", "arrived"]
def grab (i : Nat) : Bool := match i with
  | 1 => true
  | _ => false
/-- the addresses, the defs' objects -/
structure Ad where
  f_law_dice : Addr
  d_law_dice : FuncData
  f_law_rounds : Addr
  d_law_rounds : FuncData
  f_Link_init : Addr
  d_Link_init : FuncData
  ds1_Link_init : List Value
  f_Link_other : Addr
  d_Link_other : FuncData
  f_Link_send : Addr
  d_Link_send : FuncData
  f_law_roll : Addr
  d_law_roll : FuncData
  f_bent_bytes : Addr
  d_bent_bytes : FuncData
  f_law_bent : Addr
  d_law_bent : FuncData
  f_Link_act : Addr
  d_Link_act : FuncData
  f_Link_set_up : Addr
  d_Link_set_up : FuncData
  f_Link_next : Addr
  d_Link_next : FuncData
  f_law : Addr
  d_law : FuncData
  f_law_told : Addr
  d_law_told : FuncData
  c_Link : Addr
  e_NetError : Addr
  e_RouteError : Addr
  cL : Addr
  pL : Addr
/-- what the top has left -/
structure Tx (K : PySem.W.Frag) (mg : Str → Option Value) (t : Tb) (a : Ad) : Prop where
  fun_law_dice : Fun K "_law_dice" "_law_dice" s_law_dice a.f_law_dice a.d_law_dice
  m_law_dice : mg "_law_dice" = some (.ref a.f_law_dice)
  k_law_dice : PySem.W.keepIn K (.ref a.f_law_dice) = true
  b_law_dice : L2.Binds K a.d_law_dice ["cell"] []
  fun_law_rounds : Fun K "_law_rounds" "_law_rounds" s_law_rounds a.f_law_rounds a.d_law_rounds
  m_law_rounds : mg "_law_rounds" = some (.ref a.f_law_rounds)
  k_law_rounds : PySem.W.keepIn K (.ref a.f_law_rounds) = true
  b_law_rounds : L2.Binds K a.d_law_rounds ["script", "most"] []
  fun_Link_init : FunD K "__init__" "Link.__init__" (defArgs s_Link_init) (defBody s_Link_init) (defScope s_Link_init) [V.int (60)] [] a.f_Link_init a.d_Link_init
  b_Link_init : L2.Binds K a.d_Link_init ["self", "first", "second", "room"] []
  v1_Link_init : Vals [V.int (60)] a.ds1_Link_init
  b1_Link_init : L2.Binds K a.d_Link_init ["self", "first", "second", "room"] a.ds1_Link_init
  fun_Link_other : Fun K "other" "Link.other" s_Link_other a.f_Link_other a.d_Link_other
  b_Link_other : L2.Binds K a.d_Link_other ["self", "name"] []
  me_Link_other : Meth K a.c_Link "other" a.f_Link_other
  fun_Link_send : Fun K "send" "Link.send" s_Link_send a.f_Link_send a.d_Link_send
  b_Link_send : L2.Binds K a.d_Link_send ["self", "name", "data"] []
  me_Link_send : Meth K a.c_Link "send" a.f_Link_send
  fun_law_roll : Fun K "_law_roll" "_law_roll" s_law_roll a.f_law_roll a.d_law_roll
  m_law_roll : mg "_law_roll" = some (.ref a.f_law_roll)
  k_law_roll : PySem.W.keepIn K (.ref a.f_law_roll) = true
  b_law_roll : L2.Binds K a.d_law_roll ["dice", "many"] []
  fun_bent_bytes : Fun K "bent_bytes" "bent_bytes" s_bent_bytes a.f_bent_bytes a.d_bent_bytes
  m_bent_bytes : mg "bent_bytes" = some (.ref a.f_bent_bytes)
  k_bent_bytes : PySem.W.keepIn K (.ref a.f_bent_bytes) = true
  b_bent_bytes : L2.Binds K a.d_bent_bytes ["data", "spot", "change"] []
  fun_law_bent : Fun K "_law_bent" "_law_bent" s_law_bent a.f_law_bent a.d_law_bent
  m_law_bent : mg "_law_bent" = some (.ref a.f_law_bent)
  k_law_bent : PySem.W.keepIn K (.ref a.f_law_bent) = true
  b_law_bent : L2.Binds K a.d_law_bent ["data", "spot", "change"] []
  fun_Link_act : Fun K "act" "Link.act" s_Link_act a.f_Link_act a.d_Link_act
  b_Link_act : L2.Binds K a.d_Link_act ["self", "choice"] []
  me_Link_act : Meth K a.c_Link "act" a.f_Link_act
  fun_Link_set_up : Fun K "set_up" "Link.set_up" s_Link_set_up a.f_Link_set_up a.d_Link_set_up
  b_Link_set_up : L2.Binds K a.d_Link_set_up ["self", "up"] []
  me_Link_set_up : Meth K a.c_Link "set_up" a.f_Link_set_up
  fun_Link_next : Fun K "next" "Link.next" s_Link_next a.f_Link_next a.d_Link_next
  b_Link_next : L2.Binds K a.d_Link_next ["self"] []
  me_Link_next : Meth K a.c_Link "next" a.f_Link_next
  fun_law : Fun K "law" "law" s_law a.f_law a.d_law
  m_law : mg "law" = some (.ref a.f_law)
  k_law : PySem.W.keepIn K (.ref a.f_law) = true
  b_law : L2.Binds K a.d_law ["script"] []
  fun_law_told : Fun K "_law_told" "_law_told" s_law_told a.f_law_told a.d_law_told
  m_law_told : mg "_law_told" = some (.ref a.f_law_told)
  k_law_told : PySem.W.keepIn K (.ref a.f_law_told) = true
  b_law_told : L2.Binds K a.d_law_told ["what"] []
  tC_Link : t.C[0]? = some (a.c_Link, k_Link)
  cl_Link : Cls K a.c_Link
  mk_Link : Mk K a.c_Link a.f_Link_init
  mgc_Link : mg "Link" = some (.ref a.c_Link)
  na_Link_first : NoAttr K a.c_Link "first"
  na_Link_second : NoAttr K a.c_Link "second"
  na_Link_room : NoAttr K a.c_Link "room"
  na_Link_up : NoAttr K a.c_Link "up"
  na_Link_on_way : NoAttr K a.c_Link "on_way"
  na_Link_lost : NoAttr K a.c_Link "lost"
  na_Link_arrived : NoAttr K a.c_Link "arrived"
  e_RouteError : mg "RouteError" = some (.ref a.e_RouteError)
  tE_RouteError : t.E[1]? = some a.e_RouteError
  x_RouteError : PySem.W.excIn K a.e_RouteError [.type "ValueError", .type "Exception", .type "BaseException", .type "object"] "ValueError.__new__" = true
  ke_RouteError : PySem.W.keepIn K (.ref a.e_RouteError) = true
  re_RouteError : ∀ {X : Cx}, X.K = K → Raises X (.ref a.e_RouteError)
  g_DEEDS : ∃ u, mg "DEEDS" = some u ∧ RelV (.int (6)) u
  g_ESCAPE : ∃ u, mg "ESCAPE" = some u ∧ RelV (.int (125)) u
  g_MARK : ∃ u, mg "MARK" = some u ∧ RelV (.int (126)) u
  g_MOST_ON_WAY : ∃ u, mg "MOST_ON_WAY" = some u ∧ RelV (.int (200)) u
  z_abs : mg "abs" = none
  z_int : mg "int" = none
  z_len : mg "len" = none
  z_range : mg "range" = none
  z_tuple : mg "tuple" = none
  hcat : ∀ i C, t.E[i]? = some C → PySem.W.exmOne K (.ref C) (.ref a.e_RouteError) = some (grab i)
  tT_in : (a.pL, ("law.<locals>." : Str) ++ "<lambda>") ∈ t.T
  tT_un : ∀ q ∈ t.T, q.1 = a.pL → q.2 = ("law.<locals>." : Str) ++ "<lambda>"
section
variable {P : Program} {w : World} {K : PySem.W.Frag} {mg : Str → Option Value} {base : Heap} {t : Tb} {a : Ad}
def t_law_dice_77 : CS := (cRet (cLstR (cCons (cVar 0) (cCons (cBin fAdd (cK (.int (1))) (cBin fMod (cFn fInt (cCons (cVar 0) cNil)) (cK (.int (1009))))) (cCons (cFn fInt (cCons (cBin fGe (cVar 0) (cBin fPow (cK (.int (10))) (cK (.int (18))))) cNil)) cNil)))))
def c_law_dice : CF := mkF 1 (cSeq (cIfS (cTest (cChain fLt fLt (cBin fSub (cK (.int (0))) (cK (.int (10)))) (cVar 0) (cK (.int (10)))))
  (cRet (cLstR (cCons (cFn fAbs (cCons (cVar 0) cNil)) (cCons (cK (.int (0))) (cCons (cK (.int (2))) cNil)))))
  cNext)
  t_law_dice_77)
theorem ok_law_dice (T : Tx K mg t a) : FnOk P w K mg base (L2.CX P w) 1 a.f_law_dice a.d_law_dice ["cell"] (spF K t 1 c_law_dice) :=
  def_ok (k := 0) T.fun_law_dice sc_law_dice fun A outer s H E hr => (sb_cons (ss_if (sw_chain op_lt op_lt og_lt og_lt (se_op op_sub og_sub se_int se_int) (se_var 0) se_int)
  (sb_one (ss_ret (se_lstR (sa_cons (se_callB call_abs fg_abs (by rfl) T.z_abs (by decide +kernel) (sa_cons (se_var 0) sa_nil)) (sa_cons se_int (sa_cons se_int sa_nil))))))
  sb_nil)
  (sb_one (ss_ret (se_lstR (sa_cons (se_var 0) (sa_cons (se_op op_addA og_add se_int (se_op op_mod og_mod (se_callTy call_int1 fg_int (by rfl) T.z_int (by decide +kernel) (sa_cons (se_var 0) sa_nil)) se_int)) (sa_cons (se_callTy call_int1 fg_int (by rfl) T.z_int (by decide +kernel) (sa_cons (se_cmp op_ge og_ge (se_var 0) (se_op op_pow og_pow se_int se_int) (nomark _)) sa_nil)) sa_nil)))))))
def t_law_rounds_93 : CS := (cRet (cLc (iAny (cVar 2)) (nfName 3) cYes (cCall 1 [] c_law_dice (cCons (cVar 3) cNil)) [3]))
def t_law_rounds_91 : CS := (cSeq (cIfS (cTest (cBin fEq (cVar 2) (cLst cNil)))
  (cAsg (cLst (cCons (cK (.int (0))) cNil)) (Fw.gName 2))
  cNext)
  t_law_rounds_93)
def c_law_rounds : CF := mkF 4 (cSeq (cAsg (cSl fSl (cVar 0) oNone (oSome (cVar 1))) (Fw.gName 2))
  t_law_rounds_91)
theorem ok_law_rounds (T : Tx K mg t a) : FnOk P w K mg base (L2.CX P w) 2 a.f_law_rounds a.d_law_rounds ["script", "most"] (spF K t 2 c_law_rounds) :=
  def_ok (k := 1) T.fun_law_rounds sc_law_rounds fun A outer s H E hr => (sb_cons (ss_set 2 sc_law_rounds.nd (se_slice sl_all sg_all (se_var 0) so_none (so_some (se_var 1))))
  (sb_cons (ss_if (st_cmp (op_eqA hr.units) og_eq (se_var 2) (se_lst sa_nil) (nomark _))
  (sb_one (ss_set 2 sc_law_rounds.nd (se_lst (sa_cons se_int sa_nil))))
  sb_nil)
  (sb_one (ss_ret (se_lc (own := [("cell", 3)]) rfl sc_law_rounds.nd (si_any (se_var 2)) (blkOk_by (N := n_law_rounds) (sc := defScope s_law_rounds) (by decide +kernel)) (ng_name (i := 3) (by decide)) (fun _ _ _ _ _ => pg_name (i := 3) sc_law_rounds.nd rfl (Or.inl rfl)) (fun _ _ _ _ _ => sts_nil) (fun _ _ _ _ _ => (se_call (ok_law_dice T) (hr.mono (by decide)) (by rfl) T.m_law_dice T.k_law_dice T.b_law_dice .nil (fun _ _ _ => .nil) tkNo (sa_cons (se_var 3) sa_nil))))))))
def t_Link_init_22 : CS := (cSetF 0 6 (cVar 0) (cK (.int (0))))
def t_Link_init_21 : CS := (cSeq (cSetF 0 5 (cVar 0) (cK (.int (0))))
  t_Link_init_22)
def t_Link_init_20 : CS := (cSeq (cSetF 0 4 (cVar 0) (cLstR cNil))
  t_Link_init_21)
def t_Link_init_19 : CS := (cSeq (cSetF 0 3 (cVar 0) (cK (.bl true)))
  t_Link_init_20)
def t_Link_init_18 : CS := (cSeq (cSetF 0 2 (cVar 0) (cVar 3))
  t_Link_init_19)
def t_Link_init_17 : CS := (cSeq (cSetF 0 1 (cVar 0) (cVar 2))
  t_Link_init_18)
def t_Link_init_16 : CS := (cSeq (cSetF 0 0 (cVar 0) (cVar 1))
  t_Link_init_17)
def c_Link_init : CF := mkF 4 (cSeq (cIfS (cOr (cTest (cBin fEq (cVar 1) (cVar 2))) (cTest (cBin fLt (cVar 3) (cK (.int (20))))))
  (cRaise 1)
  cNext)
  t_Link_init_16)
theorem ok_Link_init (T : Tx K mg t a) : FnOk P w K mg base (L2.CX P w) 1 a.f_Link_init a.d_Link_init ["self", "first", "second", "room"] (spF K t 4 c_Link_init) :=
  def_okD (k := 0) T.fun_Link_init sc_Link_init fun A outer s H E hr => (sb_cons (ss_if (SW.st (sw_or (st_cmp (op_eqA hr.units) og_eq (se_var 1) (se_var 2) (nomark _)) (sw_or1 (st_cmp op_lt og_lt (se_var 3) se_int (nomark _)))))
  (sb_one (ss_raise 1 rfl (takes_of rfl rfl rfl rfl) T.tE_RouteError PySem.F.excBase_ValueError T.x_RouteError T.e_RouteError T.ke_RouteError (T.re_RouteError rfl) (by rfl)))
  sb_nil)
  (sb_cons (ss_fld 0 T.tC_Link rfl (by decide +kernel) (by decide) T.cl_Link T.na_Link_first (se_var 0) (se_var 1))
  (sb_cons (ss_fld 1 T.tC_Link rfl (by decide +kernel) (by decide) T.cl_Link T.na_Link_second (se_var 0) (se_var 2))
  (sb_cons (ss_fld 2 T.tC_Link rfl (by decide +kernel) (by decide) T.cl_Link T.na_Link_room (se_var 0) (se_var 3))
  (sb_cons (ss_fld 3 T.tC_Link rfl (by decide +kernel) (by decide) T.cl_Link T.na_Link_up (se_var 0) se_bl)
  (sb_cons (ss_fld 4 T.tC_Link rfl (by decide +kernel) (by decide) T.cl_Link T.na_Link_on_way (se_var 0) (se_lstR sa_nil))
  (sb_cons (ss_fld 5 T.tC_Link rfl (by decide +kernel) (by decide) T.cl_Link T.na_Link_lost (se_var 0) se_int)
  (sb_one (ss_fld 6 T.tC_Link rfl (by decide +kernel) (by decide) T.cl_Link T.na_Link_arrived (se_var 0) se_int)))))))))
def t_Link_other_27 : CS := (cRet (cIf (cTest (cBin fEq (cVar 1) (cUn (fGetF 0 0) (cVar 0)))) (cUn (fGetF 0 1) (cVar 0)) (cUn (fGetF 0 0) (cVar 0))))
def c_Link_other : CF := mkF 2 (cSeq (cIfS (cTest (cBin fNotIn (cVar 1) (cTup (cCons (cUn (fGetF 0 0) (cVar 0)) (cCons (cUn (fGetF 0 1) (cVar 0)) cNil)))))
  (cRaise 1)
  cNext)
  t_Link_other_27)
theorem ok_Link_other (T : Tx K mg t a) : FnOk P w K mg base (L2.CX P w) 1 a.f_Link_other a.d_Link_other ["self", "name"] (spF K t 2 c_Link_other) :=
  def_ok (k := 0) T.fun_Link_other sc_Link_other fun A outer s H E hr => (sb_cons (ss_if (st_cmp op_notInA og_notIn (se_var 1) (se_tup (sa_cons (se_fld 0 T.tC_Link rfl T.cl_Link T.na_Link_first (se_var 0)) (sa_cons (se_fld 1 T.tC_Link rfl T.cl_Link T.na_Link_second (se_var 0)) sa_nil))) (by rfl))
  (sb_one (ss_raise 1 rfl (takes_of rfl rfl rfl rfl) T.tE_RouteError PySem.F.excBase_ValueError T.x_RouteError T.e_RouteError T.ke_RouteError (T.re_RouteError rfl) (by rfl)))
  sb_nil)
  (sb_one (ss_ret (se_if (st_cmp (op_eqA hr.units) og_eq (se_var 1) (se_fld 0 T.tC_Link rfl T.cl_Link T.na_Link_first (se_var 0)) (nomark _)) (se_fld 1 T.tC_Link rfl T.cl_Link T.na_Link_second (se_var 0)) (se_fld 0 T.tC_Link rfl T.cl_Link T.na_Link_first (se_var 0))))))
def t_Link_send_31 : CS := (cIfS (cOr (cNot (cTest (cUn (fGetF 0 3) (cVar 0)))) (cTest (cBin fGe (cFn fLen (cCons (cUn (fGetF 0 4) (cVar 0)) cNil)) (cK (.int (200))))))
  (cAugF fAddN 0 5 (cVar 0) (cK (.int (1))))
  (cDrop (cBM isList mAppend (cUn (fGetF 0 4) (cVar 0)) (cCons (cTup (cCons (cVar 3) (cCons (cFn fTuple (cCons (cVar 2) cNil)) (cCons (cK (.bl false)) cNil)))) cNil))))
def c_Link_send : CF := mkF 4 (cSeq (cAsg (cMeth 0 2 [] c_Link_other (cVar 0) (cCons (cVar 1) cNil)) (Fw.gName 3))
  t_Link_send_31)
theorem ok_Link_send (T : Tx K mg t a) : FnOk P w K mg base (L2.CX P w) 2 a.f_Link_send a.d_Link_send ["self", "name", "data"] (spF K t 3 c_Link_send) :=
  def_ok (k := 1) T.fun_Link_send sc_Link_send fun A outer s H E hr => (sb_cons (ss_set 3 sc_Link_send.nd (se_meth T.tC_Link (by decide +kernel) T.cl_Link T.me_Link_other (ok_Link_other T) (hr.mono (by decide)) T.b_Link_other .nil (fun _ _ _ => .nil) (takes_of rfl rfl rfl rfl) (se_var 0) (sa_cons (se_var 1) sa_nil)))
  (sb_one (ss_if (SW.st (sw_or (st_not (st_of (se_fld 3 T.tC_Link rfl T.cl_Link T.na_Link_up (se_var 0)))) (sw_or1 (st_cmp op_ge og_ge (se_callB call_len fg_len (by rfl) T.z_len (by decide +kernel) (sa_cons (se_fld 4 T.tC_Link rfl T.cl_Link T.na_Link_on_way (se_var 0)) sa_nil)) (se_globI (by rfl) T.g_MOST_ON_WAY (fun _ _ _ => .int _)) (nomark _)))))
  (sb_one (ss_augF 5 in_add og_inadd T.tC_Link rfl (by decide +kernel) (by decide) T.cl_Link T.na_Link_lost (se_var 0) se_int))
  (sb_one (ss_expr (se_bm PySem.F.plainAttrs_list PySem.F.slot_list_append PySem.F.type_list_append mt_append mg_append ty_list (se_fld 4 T.tC_Link rfl T.cl_Link T.na_Link_on_way (se_var 0)) (sa_cons (se_tup (sa_cons (se_var 3) (sa_cons (se_callTy call_tuple_of fg_tuple (by rfl) T.z_tuple (by decide +kernel) (sa_cons (se_var 2) sa_nil)) (sa_cons se_bl sa_nil)))) sa_nil)))))))
def c_law_roll : Nat → CF
  | 0 => fun _ _ => .bad
  | n + 1 => mkF 3 (cSeq (cIfS (cOr (cTest (cBin fEq (cBin fIx (cVar 0) (cK (.int (2)))) (cK (.int (2))))) (cAnd (cTest (cBin fEq (cBin fIx (cVar 0) (cK (.int (2)))) (cK (.int (1))))) (cTest (cBin fGt (cBin fIx (cVar 0) (cK (.int (0)))) (cK (.int (0)))))))
  (cSeq (cAsg (cBin fMod (cFn fInt (cCons (cBin fIx (cVar 0) (cK (.int (0)))) cNil)) (cVar 1)) (Fw.gName 2))
  (cSeq (cAsg (cBin fDiv (cBin fIx (cVar 0) (cK (.int (0)))) (cVar 1)) (Fw.gSub sList (cVar 0) (cK (.int (0)))))
  (cRet (cVar 2))))
  cNext)
  (cSeq (cAsg (cK (.int (0))) (Fw.gSub sList (cVar 0) (cK (.int (2)))))
  (cSeq (cIfS (cTest (cBin fGt (cVar 1) (cK (.int (100000000)))))
  (cRet (cBin fMod (cFn fInt (cCons (cBin fAdd (cBin fMulI (cCall 2 [] (c_law_roll n) (cCons (cVar 0) (cCons (cBin fAdd (cBin fDiv (cVar 1) (cK (.int (100000000)))) (cK (.int (1)))) cNil))) (cK (.int (100000000)))) (cCall 2 [] (c_law_roll n) (cCons (cVar 0) (cCons (cK (.int (100000000))) cNil)))) cNil)) (cVar 1)))
  cNext)
  (cSeq (cAsg (cBin fMod (cFn fInt (cCons (cBin fAdd (cBin fAdd (cBin fMulI (cBin fIx (cVar 0) (cK (.int (0)))) (cK (.int (48271)))) (cBin fMulI (cBin fIx (cVar 0) (cK (.int (1)))) (cK (.int (69621))))) (cK (.int (11)))) cNil)) (cK (.int (2147483647)))) (Fw.gSub sList (cVar 0) (cK (.int (0)))))
  (cSeq (cAsg (cBin fAdd (cBin fIx (cVar 0) (cK (.int (1)))) (cK (.int (1)))) (Fw.gSub sList (cVar 0) (cK (.int (1)))))
  (cRet (cBin fMod (cFn fInt (cCons (cBin fDiv (cBin fIx (cVar 0) (cK (.int (0)))) (cK (.int (7)))) cNil)) (cVar 1))))))))
theorem ok_law_roll (T : Tx K mg t a) : ∀ n : Nat, FnOk P w K mg base (L2.CX P w) (1 + n) a.f_law_roll a.d_law_roll ["dice", "many"] (spF K t 2 (c_law_roll n))
  | 0 => ⟨fun vs H Q E h => h.1, fun _ _ _ _ _ _ _ _ _ _ _ _ _ h => by obtain ⟨_, _, _, _, _, _, _, q⟩ := h; exact q.elim⟩
  | n + 1 => by
    have ih := ok_law_roll T n
    exact def_ok (k := 1 + n) T.fun_law_roll sc_law_roll fun A outer s H E hr => (sb_cons (ss_if (SW.st (sw_or (st_cmp (op_eqA hr.units) og_eq (se_ix ix_seq og_ix (se_var 0) se_int (fun _ _ => rfl)) se_int (nomark _)) (sw_or1 (SW.st (sw_and (st_cmp (op_eqA hr.units) og_eq (se_ix ix_seq og_ix (se_var 0) se_int (fun _ _ => rfl)) se_int (nomark _)) (sw_and1 (st_cmp op_gt og_gt (se_ix ix_seq og_ix (se_var 0) se_int (fun _ _ => rfl)) se_int (nomark _))))))))
  (sb_cons (ss_set 2 sc_law_roll.nd (se_op op_mod og_mod (se_callTy call_int1 fg_int (by rfl) T.z_int (by decide +kernel) (sa_cons (se_ix ix_seq og_ix (se_var 0) se_int (fun _ _ => rfl)) sa_nil)) (se_var 1)))
  (sb_cons (ss_asg (se_op op_fdivW og_div (se_ix ix_seq og_ix (se_var 0) se_int (fun _ _ => rfl)) (se_var 1)) (sg_sub set_list sg_list (se_var 0) se_int))
  (sb_one (ss_ret (se_var 2)))))
  sb_nil)
  (sb_cons (ss_asg se_int (sg_sub set_list sg_list (se_var 0) se_int))
  (sb_cons (ss_if (st_cmp op_gt og_gt (se_var 1) se_int (nomark _))
  (sb_one (ss_ret (se_op op_mod og_mod (se_callTy call_int1 fg_int (by rfl) T.z_int (by decide +kernel) (sa_cons (se_op op_addA og_add (se_op op_mul og_mulI (se_call ih (hr.mono (by omega)) (by rfl) T.m_law_roll T.k_law_roll T.b_law_roll .nil (fun _ _ _ => .nil) (takes_of rfl rfl rfl rfl) (sa_cons (se_var 0) (sa_cons (se_op op_addA og_add (se_op op_fdivW og_div (se_var 1) se_int) se_int) sa_nil))) se_int) (se_call ih (hr.mono (by omega)) (by rfl) T.m_law_roll T.k_law_roll T.b_law_roll .nil (fun _ _ _ => .nil) (takes_of rfl rfl rfl rfl) (sa_cons (se_var 0) (sa_cons se_int sa_nil)))) sa_nil)) (se_var 1))))
  sb_nil)
  (sb_cons (ss_asg (se_op op_mod og_mod (se_callTy call_int1 fg_int (by rfl) T.z_int (by decide +kernel) (sa_cons (se_op op_addA og_add (se_op op_addA og_add (se_op op_mul og_mulI (se_ix ix_seq og_ix (se_var 0) se_int (fun _ _ => rfl)) se_int) (se_op op_mul og_mulI (se_ix ix_seq og_ix (se_var 0) se_int (fun _ _ => rfl)) se_int)) se_int) sa_nil)) se_int) (sg_sub set_list sg_list (se_var 0) se_int))
  (sb_cons (ss_asg (se_op op_addA og_add (se_ix ix_seq og_ix (se_var 0) se_int (fun _ _ => rfl)) se_int) (sg_sub set_list sg_list (se_var 0) se_int))
  (sb_one (ss_ret (se_op op_mod og_mod (se_callTy call_int1 fg_int (by rfl) T.z_int (by decide +kernel) (sa_cons (se_op op_fdivW og_div (se_ix ix_seq og_ix (se_var 0) se_int (fun _ _ => rfl)) se_int) sa_nil)) (se_var 1)))))))))
def t_bent_bytes_72 : CS := (cRet (cBin fAdd (cBin fAdd (cSl fSl (cVar 0) oNone (oSome (cVar 1))) (cTup (cCons (cVar 3) cNil))) (cSl fSl (cVar 0) (oSome (cBin fAdd (cVar 1) (cK (.int (1))))) oNone)))
def t_bent_bytes_70 : CS := (cSeq (cIfS (cOr (cTest (cBin fIn (cBin fIx (cVar 0) (cVar 1)) (cTup (cCons (cK (.int (126))) (cCons (cK (.int (125))) cNil))))) (cOr (cTest (cBin fIn (cVar 3) (cTup (cCons (cK (.int (126))) (cCons (cK (.int (125))) cNil))))) (cAnd (cTest (cBin fGt (cVar 1) (cK (.int (0))))) (cTest (cBin fEq (cBin fIx (cVar 0) (cBin fSub (cVar 1) (cK (.int (1))))) (cK (.int (125))))))))
  (cRet (cVar 0))
  cNext)
  t_bent_bytes_72)
def c_bent_bytes : CF := mkF 4 (cSeq (cAsg (cBin fMod (cBin fAdd (cBin fIx (cVar 0) (cVar 1)) (cVar 2)) (cK (.int (256)))) (Fw.gName 3))
  t_bent_bytes_70)
theorem ok_bent_bytes (T : Tx K mg t a) : FnOk P w K mg base (L2.CX P w) 1 a.f_bent_bytes a.d_bent_bytes ["data", "spot", "change"] (spF K t 3 c_bent_bytes) :=
  def_ok (k := 0) T.fun_bent_bytes sc_bent_bytes fun A outer s H E hr => (sb_cons (ss_set 3 sc_bent_bytes.nd (se_op op_mod og_mod (se_op op_addA og_add (se_ix ix_seq og_ix (se_var 0) (se_var 1) (fun _ _ => rfl)) (se_var 2)) se_int))
  (sb_cons (ss_if (SW.st (sw_or (st_cmp op_inA og_in (se_ix ix_seq og_ix (se_var 0) (se_var 1) (fun _ _ => rfl)) (se_tup (sa_cons (se_globI (by rfl) T.g_MARK (fun _ _ _ => .int _)) (sa_cons (se_globI (by rfl) T.g_ESCAPE (fun _ _ _ => .int _)) sa_nil))) (by rfl)) (sw_or (st_cmp op_inA og_in (se_var 3) (se_tup (sa_cons (se_globI (by rfl) T.g_MARK (fun _ _ _ => .int _)) (sa_cons (se_globI (by rfl) T.g_ESCAPE (fun _ _ _ => .int _)) sa_nil))) (by rfl)) (sw_or1 (SW.st (sw_and (st_cmp op_gt og_gt (se_var 1) se_int (nomark _)) (sw_and1 (st_cmp (op_eqA hr.units) og_eq (se_ix ix_seq og_ix (se_var 0) (se_op op_sub og_sub (se_var 1) se_int) (fun _ _ => rfl)) (se_globI (by rfl) T.g_ESCAPE (fun _ _ _ => .int _)) (nomark _)))))))))
  (sb_one (ss_ret (se_var 0)))
  sb_nil)
  (sb_one (ss_ret (se_op op_addA og_add (se_op op_addA og_add (se_slice sl_all sg_all (se_var 0) so_none (so_some (se_var 1))) (se_tup (sa_cons (se_var 3) sa_nil))) (se_slice sl_all sg_all (se_var 0) (so_some (se_op op_addA og_add (se_var 1) se_int)) so_none))))))
def t_law_bent_103 : CS := (cRet (cBin fAdd (cBin fAdd (cSl fSl (cVar 0) oNone (oSome (cVar 1))) (cTup (cCons (cVar 3) cNil))) (cSl fSl (cVar 0) (oSome (cBin fAdd (cVar 1) (cK (.int (1))))) oNone)))
def t_law_bent_101 : CS := (cSeq (cIfS (cOr (cTest (cBin fIn (cBin fIx (cVar 0) (cVar 1)) (cLst (cCons (cK (.int (125))) (cCons (cK (.int (126))) cNil))))) (cOr (cTest (cBin fIn (cVar 3) (cLst (cCons (cK (.int (125))) (cCons (cK (.int (126))) cNil))))) (cAnd (cTest (cBin fGt (cVar 1) (cK (.int (0))))) (cTest (cBin fEq (cBin fIx (cVar 0) (cBin fSub (cVar 1) (cK (.int (1))))) (cK (.int (125))))))))
  (cRet (cVar 0))
  cNext)
  t_law_bent_103)
def c_law_bent : CF := mkF 4 (cSeq (cAsg (cBin fMod (cBin fAdd (cBin fIx (cVar 0) (cVar 1)) (cVar 2)) (cK (.int (256)))) (Fw.gName 3))
  t_law_bent_101)
theorem ok_law_bent (T : Tx K mg t a) : FnOk P w K mg base (L2.CX P w) 1 a.f_law_bent a.d_law_bent ["data", "spot", "change"] (spF K t 3 c_law_bent) :=
  def_ok (k := 0) T.fun_law_bent sc_law_bent fun A outer s H E hr => (sb_cons (ss_set 3 sc_law_bent.nd (se_op op_mod og_mod (se_op op_addA og_add (se_ix ix_seq og_ix (se_var 0) (se_var 1) (fun _ _ => rfl)) (se_var 2)) se_int))
  (sb_cons (ss_if (SW.st (sw_or (st_cmp op_inA og_in (se_ix ix_seq og_ix (se_var 0) (se_var 1) (fun _ _ => rfl)) (se_lst (sa_cons se_int (sa_cons se_int sa_nil))) (by rfl)) (sw_or (st_cmp op_inA og_in (se_var 3) (se_lst (sa_cons se_int (sa_cons se_int sa_nil))) (by rfl)) (sw_or1 (SW.st (sw_and (st_cmp op_gt og_gt (se_var 1) se_int (nomark _)) (sw_and1 (st_cmp (op_eqA hr.units) og_eq (se_ix ix_seq og_ix (se_var 0) (se_op op_sub og_sub (se_var 1) se_int) (fun _ _ => rfl)) se_int (nomark _)))))))))
  (sb_one (ss_ret (se_var 0)))
  sb_nil)
  (sb_one (ss_ret (se_op op_addA og_add (se_op op_addA og_add (se_slice sl_all sg_all (se_var 0) so_none (so_some (se_var 1))) (se_tup (sa_cons (se_var 3) sa_nil))) (se_slice sl_all sg_all (se_var 0) (so_some (se_op op_addA og_add (se_var 1) se_int)) so_none))))))
def t_Link_act_52 : CS := (cRet (cK .non))
def t_Link_act_51 : CS := (cSeq (cAsg (cTup (cCons (cVar 5) (cCons (cCall 3 [] c_bent_bytes (cCons (cVar 6) (cCons (cVar 8) (cCons (cVar 9) cNil)))) (cCons (cK (.bl true)) cNil)))) (Fw.gSub sList (cUn (fGetF 0 4) (cVar 0)) (cVar 3)))
  t_Link_act_52)
def t_Link_act_50 : CS := (cSeq (cAsg (cBin fAdd (cK (.int (1))) (cBin fMod (cBin fDiv (cBin fDiv (cBin fDiv (cVar 1) (cVar 2)) (cK (.int (6)))) (cFn fLen (cCons (cVar 6) cNil))) (cK (.int (255))))) (Fw.gName 9))
  t_Link_act_51)
def t_Link_act_58 : CS := (cRet (cK .non))
def t_Link_act_60 : CS := (cRet (cTup (cCons (cVar 5) (cCons (cVar 6) cNil))))
def t_Link_act_59 : CS := (cSeq (cAugF fAddN 0 6 (cVar 0) (cK (.int (1))))
  t_Link_act_60)
def t_Link_act_56 : CS := (cSeq (cIfS (cTest (cBin fEq (cVar 4) (cK (.int (3)))))
  (cSeq (cAugF fAddN 0 5 (cVar 0) (cK (.int (1))))
  t_Link_act_58)
  cNext)
  t_Link_act_59)
def t_Link_act_54 : CS := (cSeq (cIfS (cTest (cBin fEq (cVar 4) (cK (.int (4)))))
  (cDrop (cBM isList mAppend (cUn (fGetF 0 4) (cVar 0)) (cCons (cTup (cCons (cVar 5) (cCons (cVar 6) (cCons (cVar 7) cNil)))) cNil)))
  cNext)
  t_Link_act_56)
def t_Link_act_53 : CS := (cSeq (cDrop (cBM isList mPopAt (cUn (fGetF 0 4) (cVar 0)) (cCons (cVar 3) cNil)))
  t_Link_act_54)
def t_Link_act_48 : CS := (cSeq (cIfS (cAnd (cTest (cBin fEq (cVar 4) (cK (.int (5))))) (cAnd (cNot (cTest (cVar 7))) (cTest (cBin fNe (cVar 6) (cTup cNil)))))
  (cSeq (cAsg (cBin fMod (cBin fDiv (cBin fDiv (cVar 1) (cVar 2)) (cK (.int (6)))) (cFn fLen (cCons (cVar 6) cNil))) (Fw.gName 8))
  t_Link_act_50)
  cNext)
  t_Link_act_53)
def t_Link_act_47 : CS := (cSeq (cAsg (cBin fIx (cUn (fGetF 0 4) (cVar 0)) (cVar 3)) (Fw.gTup 3 (Fw.gCons (Fw.gName 5) (Fw.gCons (Fw.gName 6) (Fw.gCons (Fw.gName 7) Fw.gNil)))))
  t_Link_act_48)
def t_Link_act_46 : CS := (cSeq (cPar 3 4 (cCons (cBin fMod (cVar 1) (cVar 2)) (cCons (cBin fMod (cBin fDiv (cVar 1) (cVar 2)) (cK (.int (6)))) cNil)))
  t_Link_act_47)
def t_Link_act_45 : CS := (cSeq (cAsg (cFn fLen (cCons (cUn (fGetF 0 4) (cVar 0)) cNil)) (Fw.gName 2))
  t_Link_act_46)
def c_Link_act : CF := mkF 10 (cSeq (cIfS (cTest (cBin fEq (cUn (fGetF 0 4) (cVar 0)) (cLst cNil)))
  (cRet (cK .non))
  cNext)
  t_Link_act_45)
theorem ok_Link_act (T : Tx K mg t a) : FnOk P w K mg base (L2.CX P w) 2 a.f_Link_act a.d_Link_act ["self", "choice"] (spF K t 2 c_Link_act) :=
  def_ok (k := 1) T.fun_Link_act sc_Link_act fun A outer s H E hr => (sb_cons (ss_if (st_cmp (op_eqA hr.units) og_eq (se_fld 4 T.tC_Link rfl T.cl_Link T.na_Link_on_way (se_var 0)) (se_lst sa_nil) (nomark _))
  (sb_one (ss_ret se_non))
  sb_nil)
  (sb_cons (ss_set 2 sc_Link_act.nd (se_callB call_len fg_len (by rfl) T.z_len (by decide +kernel) (sa_cons (se_fld 4 T.tC_Link rfl T.cl_Link T.na_Link_on_way (se_var 0)) sa_nil)))
  (sb_cons (ss_par 3 4 rfl sc_Link_act.nd (sa_cons (se_op op_mod og_mod (se_var 1) (se_var 2)) (sa_cons (se_op op_mod og_mod (se_op op_fdivW og_div (se_var 1) (se_var 2)) (se_globI (by rfl) T.g_DEEDS (fun _ _ _ => .int _))) sa_nil)))
  (sb_cons (ss_asg (se_ix ix_seq og_ix (se_fld 4 T.tC_Link rfl T.cl_Link T.na_Link_on_way (se_var 0)) (se_var 3) (fun _ _ => rfl)) (sg_tup rfl (sgs_cons (sg_name 5 sc_Link_act.nd) (sgs_cons (sg_name 6 sc_Link_act.nd) (sgs_cons (sg_name 7 sc_Link_act.nd) sgs_nil)))))
  (sb_cons (ss_if (SW.st (sw_and (st_cmp (op_eqA hr.units) og_eq (se_var 4) se_int (nomark _)) (sw_and (st_not (st_of (se_var 7))) (sw_and1 (st_cmp (op_neA hr.units) og_ne (se_var 6) (se_tup sa_nil) (nomark _))))))
  (sb_cons (ss_set 8 sc_Link_act.nd (se_op op_mod og_mod (se_op op_fdivW og_div (se_op op_fdivW og_div (se_var 1) (se_var 2)) (se_globI (by rfl) T.g_DEEDS (fun _ _ _ => .int _))) (se_callB call_len fg_len (by rfl) T.z_len (by decide +kernel) (sa_cons (se_var 6) sa_nil))))
  (sb_cons (ss_set 9 sc_Link_act.nd (se_op op_addA og_add se_int (se_op op_mod og_mod (se_op op_fdivW og_div (se_op op_fdivW og_div (se_op op_fdivW og_div (se_var 1) (se_var 2)) (se_globI (by rfl) T.g_DEEDS (fun _ _ _ => .int _))) (se_callB call_len fg_len (by rfl) T.z_len (by decide +kernel) (sa_cons (se_var 6) sa_nil))) se_int)))
  (sb_cons (ss_asg (se_tup (sa_cons (se_var 5) (sa_cons (se_call (ok_bent_bytes T) (hr.mono (by decide)) (by rfl) T.m_bent_bytes T.k_bent_bytes T.b_bent_bytes .nil (fun _ _ _ => .nil) (takes_of rfl rfl rfl rfl) (sa_cons (se_var 6) (sa_cons (se_var 8) (sa_cons (se_var 9) sa_nil)))) (sa_cons se_bl sa_nil)))) (sg_sub set_list sg_list (se_fld 4 T.tC_Link rfl T.cl_Link T.na_Link_on_way (se_var 0)) (se_var 3)))
  (sb_one (ss_ret se_non)))))
  sb_nil)
  (sb_cons (ss_expr (se_bm PySem.F.plainAttrs_list PySem.F.slot_list_pop PySem.F.type_list_pop mt_popAt mg_popAt ty_list (se_fld 4 T.tC_Link rfl T.cl_Link T.na_Link_on_way (se_var 0)) (sa_cons (se_var 3) sa_nil)))
  (sb_cons (ss_if (st_cmp (op_eqA hr.units) og_eq (se_var 4) se_int (nomark _))
  (sb_one (ss_expr (se_bm PySem.F.plainAttrs_list PySem.F.slot_list_append PySem.F.type_list_append mt_append mg_append ty_list (se_fld 4 T.tC_Link rfl T.cl_Link T.na_Link_on_way (se_var 0)) (sa_cons (se_tup (sa_cons (se_var 5) (sa_cons (se_var 6) (sa_cons (se_var 7) sa_nil)))) sa_nil))))
  sb_nil)
  (sb_cons (ss_if (st_cmp (op_eqA hr.units) og_eq (se_var 4) se_int (nomark _))
  (sb_cons (ss_augF 5 in_add og_inadd T.tC_Link rfl (by decide +kernel) (by decide) T.cl_Link T.na_Link_lost (se_var 0) se_int)
  (sb_one (ss_ret se_non)))
  sb_nil)
  (sb_cons (ss_augF 6 in_add og_inadd T.tC_Link rfl (by decide +kernel) (by decide) T.cl_Link T.na_Link_arrived (se_var 0) se_int)
  (sb_one (ss_ret (se_tup (sa_cons (se_var 5) (sa_cons (se_var 6) sa_nil))))))))))))))
def t_Link_set_up_40 : CS := (cSetF 0 4 (cVar 0) (cLstR cNil))
def t_Link_set_up_38 : CS := (cIfS (cNot (cTest (cVar 1)))
  (cSeq (cAugF fAddN 0 5 (cVar 0) (cFn fLen (cCons (cUn (fGetF 0 4) (cVar 0)) cNil)))
  t_Link_set_up_40)
  cNext)
def c_Link_set_up : CF := mkF 2 (cSeq (cSetF 0 3 (cVar 0) (cVar 1))
  t_Link_set_up_38)
theorem ok_Link_set_up (T : Tx K mg t a) : FnOk P w K mg base (L2.CX P w) 1 a.f_Link_set_up a.d_Link_set_up ["self", "up"] (spF K t 2 c_Link_set_up) :=
  def_ok (k := 0) T.fun_Link_set_up sc_Link_set_up fun A outer s H E hr => (sb_cons (ss_fld 3 T.tC_Link rfl (by decide +kernel) (by decide) T.cl_Link T.na_Link_up (se_var 0) (se_var 1))
  (sb_one (ss_if (st_not (st_of (se_var 1)))
  (sb_cons (ss_augF 5 in_add og_inadd T.tC_Link rfl (by decide +kernel) (by decide) T.cl_Link T.na_Link_lost (se_var 0) (se_callB call_len fg_len (by rfl) T.z_len (by decide +kernel) (sa_cons (se_fld 4 T.tC_Link rfl T.cl_Link T.na_Link_on_way (se_var 0)) sa_nil)))
  (sb_one (ss_fld 4 T.tC_Link rfl (by decide +kernel) (by decide) T.cl_Link T.na_Link_on_way (se_var 0) (se_lstR sa_nil))))
  sb_nil)))
def t_Link_next_67 : CS := (cRet (cTup (cCons (cVar 1) (cCons (cVar 2) cNil))))
def t_Link_next_66 : CS := (cSeq (cAugF fAddN 0 6 (cVar 0) (cK (.int (1))))
  t_Link_next_67)
def t_Link_next_65 : CS := (cSeq (cAsg (cBM isList mPopAt (cUn (fGetF 0 4) (cVar 0)) (cCons (cK (.int (0))) cNil)) (Fw.gTup 3 (Fw.gCons (Fw.gName 1) (Fw.gCons (Fw.gName 2) (Fw.gCons (Fw.gName 3) Fw.gNil)))))
  t_Link_next_66)
def c_Link_next : CF := mkF 4 (cSeq (cIfS (cTest (cBin fEq (cUn (fGetF 0 4) (cVar 0)) (cLst cNil)))
  (cRet (cK .non))
  cNext)
  t_Link_next_65)
theorem ok_Link_next (T : Tx K mg t a) : FnOk P w K mg base (L2.CX P w) 1 a.f_Link_next a.d_Link_next ["self"] (spF K t 1 c_Link_next) :=
  def_ok (k := 0) T.fun_Link_next sc_Link_next fun A outer s H E hr => (sb_cons (ss_if (st_cmp (op_eqA hr.units) og_eq (se_fld 4 T.tC_Link rfl T.cl_Link T.na_Link_on_way (se_var 0)) (se_lst sa_nil) (nomark _))
  (sb_one (ss_ret se_non))
  sb_nil)
  (sb_cons (ss_asg (se_bm PySem.F.plainAttrs_list PySem.F.slot_list_pop PySem.F.type_list_pop mt_popAt mg_popAt ty_list (se_fld 4 T.tC_Link rfl T.cl_Link T.na_Link_on_way (se_var 0)) (sa_cons se_int sa_nil)) (sg_tup rfl (sgs_cons (sg_name 1 sc_Link_next.nd) (sgs_cons (sg_name 2 sc_Link_next.nd) (sgs_cons (sg_name 3 sc_Link_next.nd) sgs_nil)))))
  (sb_cons (ss_augF 6 in_add og_inadd T.tC_Link rfl (by decide +kernel) (by decide) T.cl_Link T.na_Link_arrived (se_var 0) se_int)
  (sb_one (ss_ret (se_tup (sa_cons (se_var 1) (sa_cons (se_var 2) sa_nil))))))))
def t_law_112 : CS := (cIfS (cAnd (cTest (cVar 6)) (cTest (cBin fLt (cFn fLen (cCons (cVar 3) cNil)) (cK (.int (200))))))
  (cDrop (cBM isList mAppend (cVar 3) (cCons (cTup (cCons (cIf (cTest (cBin fEq (cVar 9) (cK (.str "a")))) (cK (.str "b")) (cK (.str "a"))) (cCons (cVar 10) (cCons (cK (.bl false)) cNil)))) cNil)))
  (cAsg (cBin fAdd (cVar 4) (cK (.int (1)))) (Fw.gName 4)))
def t_law_111 : CS := (cSeq (cDrop (cMeth 0 3 [] c_Link_send (cVar 2) (cCons (cVar 9) (cCons (cVar 10) cNil))))
  t_law_112)
def t_law_129 : CS := (cPar 4 5 (cCons (cBin fAdd (cVar 4) (cFn fInt (cCons (cBin fEq (cVar 18) (cK (.int (3)))) cNil))) (cCons (cBin fAdd (cVar 5) (cFn fInt (cCons (cBin fNe (cVar 18) (cK (.int (3)))) cNil))) cNil)))
def t_law_128 : CS := (cSeq (cAsg (cIf (cTest (cBin fEq (cVar 18) (cK (.int (3))))) (cK .non) (cTup (cCons (cVar 16) (cCons (cVar 10) cNil)))) (Fw.gName 13))
  t_law_129)
def t_law_127 : CS := (cSeq (cDrop (cBM isList mPopAt (cVar 3) (cCons (cVar 14) cNil)))
  t_law_128)
def t_law_122 : CS := (cIfS (cAnd (cTest (cBin fEq (cVar 18) (cK (.int (5))))) (cAnd (cNot (cTest (cVar 17))) (cTest (cBin fNe (cVar 10) (cTup cNil)))))
  (cAsg (cTup (cCons (cVar 16) (cCons (cCall 3 [] c_law_bent (cCons (cVar 10) (cCons (cBin fMod (cBin fDiv (cVar 15) (cK (.int (6)))) (cFn fLen (cCons (cVar 10) cNil))) (cCons (cBin fAdd (cK (.int (1))) (cBin fMod (cBin fDiv (cBin fDiv (cVar 15) (cK (.int (6)))) (cFn fLen (cCons (cVar 10) cNil))) (cK (.int (255))))) cNil)))) (cCons (cK (.bl true)) cNil)))) (Fw.gSub sList (cVar 3) (cVar 14)))
  (cSeq (cIfS (cTest (cBin fEq (cVar 18) (cK (.int (4)))))
  (cDrop (cBM isList mAppend (cVar 3) (cCons (cTup (cCons (cVar 16) (cCons (cVar 10) (cCons (cVar 17) cNil)))) cNil)))
  cNext)
  t_law_127))
def t_law_121 : CS := (cSeq (cAsg (cBin fMod (cVar 15) (cK (.int (6)))) (Fw.gName 18))
  t_law_122)
def t_law_120 : CS := (cSeq (cAsg (cBin fIx (cVar 3) (cVar 14)) (Fw.gTup 3 (Fw.gCons (Fw.gName 16) (Fw.gCons (Fw.gName 10) (Fw.gCons (Fw.gName 17) Fw.gNil)))))
  t_law_121)
def t_law_130 : CS := (cIfS (cTest (cBin fNe (cMeth 0 2 [] c_Link_act (cVar 2) (cCons (cVar 12) cNil)) (cVar 13)))
  (cRet (cK (.bl false)))
  cNext)
def t_law_118 : CS := (cSeq (cIfS (cTest (cBin fNe (cVar 3) (cLst cNil)))
  (cSeq (cPar 14 15 (cCons (cBin fMod (cVar 12) (cFn fLen (cCons (cVar 3) cNil))) (cCons (cBin fDiv (cVar 12) (cFn fLen (cCons (cVar 3) cNil))) cNil)))
  t_law_120)
  cNext)
  t_law_130)
def t_law_135 : CS := (cIfS (cTest (cBin fNe (cMeth 0 1 [] c_Link_next (cVar 2) cNil) (cVar 13)))
  (cRet (cK (.bl false)))
  cNext)
def t_law_134 : CS := (cSeq (cAsg (cBin fAdd (cVar 5) (cFn fInt (cCons (cBin fIsNotC (cVar 13) (cK .non)) cNil))) (Fw.gName 5))
  t_law_135)
def t_law_140 : CS := (cPar 4 3 (cCons (cBin fAdd (cVar 4) (cIf (cTest (cVar 6)) (cK (.int (0))) (cFn fLen (cCons (cVar 3) cNil)))) (cCons (cIf (cTest (cVar 6)) (cVar 3) (cLstR cNil)) cNil)))
def t_law_139 : CS := (cSeq (cDrop (cMeth 0 2 [] c_Link_set_up (cVar 2) (cCons (cVar 6) cNil)))
  t_law_140)
def t_law_141 : CS := (cIfS (cOr (cTest (cBin fNe (cUn (fGetF 0 4) (cVar 2)) (cVar 3))) (cTest (cBin fNe (cTup (cCons (cUn (fGetF 0 5) (cVar 2)) (cCons (cUn (fGetF 0 6) (cVar 2)) (cCons (cUn (fGetF 0 3) (cVar 2)) cNil)))) (cTup (cCons (cVar 4) (cCons (cVar 5) (cCons (cVar 6) cNil)))))))
  (cRet (cK (.bl false)))
  cNext)
def t_law_109 : CS := (cSeq (cIfS (cTest (cBin fLt (cVar 8) (cK (.int (4)))))
  (cSeq (cPar 9 10 (cCons (cBin fIx (cK (.str "ab")) (cCall 2 [] (c_law_roll 4) (cCons (cVar 1) (cCons (cK (.int (2))) cNil)))) (cCons (cFn fTuple (cCons (cLc (iRange1 (cCons (cCall 2 [] (c_law_roll 4) (cCons (cVar 1) (cCons (cK (.int (9))) cNil))) cNil)) (nfName 11) cYes (cBin fIx (cLst (cCons (cK (.int (126))) (cCons (cK (.int (125))) (cCons (cCall 2 [] (c_law_roll 4) (cCons (cVar 1) (cCons (cK (.int (256))) cNil))) cNil)))) (cCall 2 [] (c_law_roll 4) (cCons (cVar 1) (cCons (cK (.int (3))) cNil)))) [11]) cNil)) cNil)))
  t_law_111)
  (cIfS (cTest (cBin fLt (cVar 8) (cK (.int (7)))))
  (cSeq (cPar 12 13 (cCons (cCall 2 [] (c_law_roll 4) (cCons (cVar 1) (cCons (cBin fPow (cK (.int (10))) (cK (.int (6)))) cNil))) (cCons (cK .non) cNil)))
  t_law_118)
  (cIfS (cTest (cBin fEq (cVar 8) (cK (.int (7)))))
  (cSeq (cAsg (cIf (cTest (cBin fEq (cVar 3) (cLst cNil))) (cK .non) (cSl fSl (cBM isList mPopAt (cVar 3) (cCons (cK (.int (0))) cNil)) oNone (oSome (cK (.int (2)))))) (Fw.gName 13))
  t_law_134)
  (cSeq (cAsg (cNotV (cVar 6)) (Fw.gName 6))
  t_law_139))))
  t_law_141)
def b_law_107 : CS := (cSeq (cAsg (cCall 2 [] (c_law_roll 4) (cCons (cVar 1) (cCons (cK (.int (9))) cNil))) (Fw.gName 8))
  t_law_109)
def t_law_145 : CS := (cIfS (cOr (cTest (cBin fNe (cCall 3 [] c_bent_bytes (cCons (cVar 10) (cCons (cVar 19) (cCons (cVar 20) cNil)))) (cCall 3 [] c_law_bent (cCons (cVar 10) (cCons (cVar 19) (cCons (cVar 20) cNil)))))) (cOr (cTest (cBin fNe (cMeth 0 2 [] c_Link_other (cVar 2) (cCons (cK (.str "a")) cNil)) (cK (.str "b")))) (cTest (cBin fNe (cTold grab "RouteError" (cMeth 0 2 [] c_Link_other (cVar 2) (cCons (cK (.str "c")) cNil))) (cK (.str "RouteError"))))))
  (cRet (cK (.bl false)))
  cNext)
def t_law_144 : CS := (cSeq (cPar 19 20 (cCons (cCall 2 [] (c_law_roll 4) (cCons (cVar 1) (cCons (cFn fLen (cCons (cVar 10) cNil)) cNil))) (cCons (cBin fAdd (cK (.int (1))) (cCall 2 [] (c_law_roll 4) (cCons (cVar 1) (cCons (cK (.int (255))) cNil)))) cNil)))
  t_law_145)
def t_law_143 : CS := (cSeq (cAsg (cFn fTuple (cCons (cLc (iRange1 (cCons (cBin fAdd (cK (.int (1))) (cCall 2 [] (c_law_roll 4) (cCons (cVar 1) (cCons (cK (.int (9))) cNil)))) cNil)) (nfName 11) cYes (cCall 2 [] (c_law_roll 4) (cCons (cVar 1) (cCons (cK (.int (256))) cNil))) [11]) cNil)) (Fw.gName 10))
  t_law_144)
def t_law_107 : CS := (cSeq (cFor (iRange1 (cCons (cCall 2 [] (c_law_roll 4) (cCons (cVar 1) (cCons (cK (.int (61))) cNil))) cNil)) (Fw.gName 7)
  b_law_107)
  t_law_143)
def b_law_105 : CS := (cSeq (cAsg (cTup (cCons (cMake 0 7 4 [] c_Link_init (cCons (cK (.str "a")) (cCons (cK (.str "b")) (cCons (cBin fAdd (cK (.int (20))) (cCall 2 [] (c_law_roll 4) (cCons (cVar 1) (cCons (cK (.int (100))) cNil)))) cNil)))) (cCons (cLstR cNil) (cCons (cK (.int (0))) (cCons (cK (.int (0))) (cCons (cK (.bl true)) cNil)))))) (Fw.gTup 5 (Fw.gCons (Fw.gName 2) (Fw.gCons (Fw.gName 3) (Fw.gCons (Fw.gName 4) (Fw.gCons (Fw.gName 5) (Fw.gCons (Fw.gName 6) Fw.gNil)))))))
  t_law_107)
def b_law_149 : CS := (cDrop (cMeth 0 3 [] c_Link_send (cVar 2) (cCons (cK (.str "a")) (cCons (cTup (cCons (cBin fMod (cVar 11) (cK (.int (256)))) cNil)) cNil))))
def t_law_153 : CS := (cRet (cAndV (cBin fEq (cTold grab "RouteError" (cMake 0 7 4 [.int (60)] c_Link_init (cCons (cK (.str "a")) (cCons (cK (.str "a")) cNil)))) (cK (.str "RouteError"))) (cBin fEq (cTold grab "RouteError" (cMake 0 7 4 [] c_Link_init (cCons (cK (.str "a")) (cCons (cK (.str "b")) (cCons (cK (.int (19))) cNil))))) (cK (.str "RouteError")))))
def t_law_151 : CS := (cSeq (cIfS (cOr (cTest (cBin fNe (cFn fLen (cCons (cUn (fGetF 0 4) (cVar 2)) cNil)) (cK (.int (200))))) (cTest (cBin fNe (cUn (fGetF 0 5) (cVar 2)) (cK (.int (5))))))
  (cRet (cK (.bl false)))
  cNext)
  t_law_153)
def t_law_149 : CS := (cSeq (cFor (iRange1 (cCons (cK (.int (205))) cNil)) (Fw.gName 11)
  b_law_149)
  t_law_151)
def t_law_148 : CS := (cSeq (cAsg (cMake 0 7 4 [.int (60)] c_Link_init (cCons (cK (.str "a")) (cCons (cK (.str "b")) cNil))) (Fw.gName 2))
  t_law_149)
def c_law : CF := mkF 21 (cSeq (cFor (iAny (cCall 2 [] c_law_rounds (cCons (cVar 0) (cCons (cK (.int (1))) cNil)))) (Fw.gName 1)
  b_law_105)
  t_law_148)
theorem ok_law (T : Tx K mg t a) (TB : LamX.TabB base mg a.cL a.pL) (hcode : a.d_law.code = .ref a.cL) : FnOk P w K mg base (L2.CX P w) 8 a.f_law a.d_law ["script"] (spF K t 1 c_law) :=
  def_ok (k := 7) T.fun_law sc_law fun A outer s H E hr => (sb_cons (ss_for (passes_of rfl) rfl (si_any (se_call (ok_law_rounds T) (hr.mono (by decide)) (by rfl) T.m_law_rounds T.k_law_rounds T.b_law_rounds .nil (fun _ _ _ => .nil) (takes_of rfl rfl rfl rfl) (sa_cons (se_var 0) (sa_cons se_int sa_nil)))) (sg_name 1 sc_law.nd)
  (sb_cons (ss_asg (se_tup (sa_cons (se_make T.tC_Link T.mk_Link (ok_Link_init T) (hr.mono (by decide)) (by rfl) T.mgc_Link T.b_Link_init .nil (fun _ _ _ => .nil) (takes_of rfl rfl rfl rfl) (sa_cons se_str (sa_cons se_str (sa_cons (se_op op_addA og_add se_int (se_call (ok_law_roll T 4) (hr.mono (by decide)) (by rfl) T.m_law_roll T.k_law_roll T.b_law_roll .nil (fun _ _ _ => .nil) (takes_of rfl rfl rfl rfl) (sa_cons (se_var 1) (sa_cons se_int sa_nil)))) sa_nil)))) (sa_cons (se_lstR sa_nil) (sa_cons se_int (sa_cons se_int (sa_cons se_bl sa_nil)))))) (sg_tup rfl (sgs_cons (sg_name 2 sc_law.nd) (sgs_cons (sg_name 3 sc_law.nd) (sgs_cons (sg_name 4 sc_law.nd) (sgs_cons (sg_name 5 sc_law.nd) (sgs_cons (sg_name 6 sc_law.nd) sgs_nil)))))))
  (sb_cons (ss_for (passes_of rfl) rfl (si_range1 (by rfl) T.z_range (sa_cons (se_call (ok_law_roll T 4) (hr.mono (by decide)) (by rfl) T.m_law_roll T.k_law_roll T.b_law_roll .nil (fun _ _ _ => .nil) (takes_of rfl rfl rfl rfl) (sa_cons (se_var 1) (sa_cons se_int sa_nil))) sa_nil)) (sg_name 7 sc_law.nd)
  (sb_cons (ss_set 8 sc_law.nd (se_call (ok_law_roll T 4) (hr.mono (by decide)) (by rfl) T.m_law_roll T.k_law_roll T.b_law_roll .nil (fun _ _ _ => .nil) (takes_of rfl rfl rfl rfl) (sa_cons (se_var 1) (sa_cons se_int sa_nil))))
  (sb_cons (ss_if (st_cmp op_lt og_lt (se_var 8) se_int (nomark _))
  (sb_cons (ss_par 9 10 rfl sc_law.nd (sa_cons (se_ix ix_seq og_ix se_str (se_call (ok_law_roll T 4) (hr.mono (by decide)) (by rfl) T.m_law_roll T.k_law_roll T.b_law_roll .nil (fun _ _ _ => .nil) (takes_of rfl rfl rfl rfl) (sa_cons (se_var 1) (sa_cons se_int sa_nil))) (fun _ _ => rfl)) (sa_cons (se_callTy call_tuple_of fg_tuple (by rfl) T.z_tuple (by decide +kernel) (sa_cons (se_lc (own := [("k", 11)]) rfl sc_law.nd (si_range1 (by rfl) T.z_range (sa_cons (se_call (ok_law_roll T 4) (hr.mono (by decide)) (by rfl) T.m_law_roll T.k_law_roll T.b_law_roll .nil (fun _ _ _ => .nil) (takes_of rfl rfl rfl rfl) (sa_cons (se_var 1) (sa_cons se_int sa_nil))) sa_nil)) (blkOk_by (N := n_law) (sc := defScope s_law) (by decide +kernel)) (ng_name (i := 11) (by decide)) (fun _ _ _ _ _ => pg_name (i := 11) sc_law.nd rfl (Or.inl rfl)) (fun _ _ _ _ _ => sts_nil) (fun _ _ _ _ _ => (se_ix ix_seq og_ix (se_lst (sa_cons se_int (sa_cons se_int (sa_cons (se_call (ok_law_roll T 4) (hr.mono (by decide)) (by rfl) T.m_law_roll T.k_law_roll T.b_law_roll .nil (fun _ _ _ => .nil) tkNo (sa_cons (se_var 1) (sa_cons se_int sa_nil))) sa_nil)))) (se_call (ok_law_roll T 4) (hr.mono (by decide)) (by rfl) T.m_law_roll T.k_law_roll T.b_law_roll .nil (fun _ _ _ => .nil) tkNo (sa_cons (se_var 1) (sa_cons se_int sa_nil))) (fun _ _ => rfl)))) sa_nil)) sa_nil)))
  (sb_cons (ss_expr (se_meth T.tC_Link (by decide +kernel) T.cl_Link T.me_Link_send (ok_Link_send T) (hr.mono (by decide)) T.b_Link_send .nil (fun _ _ _ => .nil) (takes_of rfl rfl rfl rfl) (se_var 2) (sa_cons (se_var 9) (sa_cons (se_var 10) sa_nil))))
  (sb_one (ss_if (SW.st (sw_and (st_of (se_var 6)) (sw_and1 (st_cmp op_lt og_lt (se_callB call_len fg_len (by rfl) T.z_len (by decide +kernel) (sa_cons (se_var 3) sa_nil)) se_int (nomark _)))))
  (sb_one (ss_expr (se_bm PySem.F.plainAttrs_list PySem.F.slot_list_append PySem.F.type_list_append mt_append mg_append ty_list (se_var 3) (sa_cons (se_tup (sa_cons (se_if (st_cmp (op_eqA hr.units) og_eq (se_var 9) se_str (nomark _)) se_str se_str) (sa_cons (se_var 10) (sa_cons se_bl sa_nil)))) sa_nil))))
  (sb_one (ss_set 4 sc_law.nd (se_op op_addA og_add (se_var 4) se_int)))))))
  (sb_one (ss_if (st_cmp op_lt og_lt (se_var 8) se_int (nomark _))
  (sb_cons (ss_par 12 13 rfl sc_law.nd (sa_cons (se_call (ok_law_roll T 4) (hr.mono (by decide)) (by rfl) T.m_law_roll T.k_law_roll T.b_law_roll .nil (fun _ _ _ => .nil) (takes_of rfl rfl rfl rfl) (sa_cons (se_var 1) (sa_cons (se_op op_pow og_pow se_int se_int) sa_nil))) (sa_cons se_non sa_nil)))
  (sb_cons (ss_if (st_cmp (op_neA hr.units) og_ne (se_var 3) (se_lst sa_nil) (nomark _))
  (sb_cons (ss_par 14 15 rfl sc_law.nd (sa_cons (se_op op_mod og_mod (se_var 12) (se_callB call_len fg_len (by rfl) T.z_len (by decide +kernel) (sa_cons (se_var 3) sa_nil))) (sa_cons (se_op op_fdivW og_div (se_var 12) (se_callB call_len fg_len (by rfl) T.z_len (by decide +kernel) (sa_cons (se_var 3) sa_nil))) sa_nil)))
  (sb_cons (ss_asg (se_ix ix_seq og_ix (se_var 3) (se_var 14) (fun _ _ => rfl)) (sg_tup rfl (sgs_cons (sg_name 16 sc_law.nd) (sgs_cons (sg_name 10 sc_law.nd) (sgs_cons (sg_name 17 sc_law.nd) sgs_nil)))))
  (sb_cons (ss_set 18 sc_law.nd (se_op op_mod og_mod (se_var 15) se_int))
  (sb_one (ss_if (SW.st (sw_and (st_cmp (op_eqA hr.units) og_eq (se_var 18) se_int (nomark _)) (sw_and (st_not (st_of (se_var 17))) (sw_and1 (st_cmp (op_neA hr.units) og_ne (se_var 10) (se_tup sa_nil) (nomark _))))))
  (sb_one (ss_asg (se_tup (sa_cons (se_var 16) (sa_cons (se_call (ok_law_bent T) (hr.mono (by decide)) (by rfl) T.m_law_bent T.k_law_bent T.b_law_bent .nil (fun _ _ _ => .nil) (takes_of rfl rfl rfl rfl) (sa_cons (se_var 10) (sa_cons (se_op op_mod og_mod (se_op op_fdivW og_div (se_var 15) se_int) (se_callB call_len fg_len (by rfl) T.z_len (by decide +kernel) (sa_cons (se_var 10) sa_nil))) (sa_cons (se_op op_addA og_add se_int (se_op op_mod og_mod (se_op op_fdivW og_div (se_op op_fdivW og_div (se_var 15) se_int) (se_callB call_len fg_len (by rfl) T.z_len (by decide +kernel) (sa_cons (se_var 10) sa_nil))) se_int)) sa_nil)))) (sa_cons se_bl sa_nil)))) (sg_sub set_list sg_list (se_var 3) (se_var 14))))
  (sb_cons (ss_if (st_cmp (op_eqA hr.units) og_eq (se_var 18) se_int (nomark _))
  (sb_one (ss_expr (se_bm PySem.F.plainAttrs_list PySem.F.slot_list_append PySem.F.type_list_append mt_append mg_append ty_list (se_var 3) (sa_cons (se_tup (sa_cons (se_var 16) (sa_cons (se_var 10) (sa_cons (se_var 17) sa_nil)))) sa_nil))))
  sb_nil)
  (sb_cons (ss_expr (se_bm PySem.F.plainAttrs_list PySem.F.slot_list_pop PySem.F.type_list_pop mt_popAt mg_popAt ty_list (se_var 3) (sa_cons (se_var 14) sa_nil)))
  (sb_cons (ss_set 13 sc_law.nd (se_if (st_cmp (op_eqA hr.units) og_eq (se_var 18) se_int (nomark _)) se_non (se_tup (sa_cons (se_var 16) (sa_cons (se_var 10) sa_nil)))))
  (sb_one (ss_par 4 5 rfl sc_law.nd (sa_cons (se_op op_addA og_add (se_var 4) (se_callTy call_int1 fg_int (by rfl) T.z_int (by decide +kernel) (sa_cons (se_cmp (op_eqA hr.units) og_eq (se_var 18) se_int (nomark _)) sa_nil))) (sa_cons (se_op op_addA og_add (se_var 5) (se_callTy call_int1 fg_int (by rfl) T.z_int (by decide +kernel) (sa_cons (se_cmp (op_neA hr.units) og_ne (se_var 18) se_int (nomark _)) sa_nil))) sa_nil))))))))))))
  sb_nil)
  (sb_one (ss_if (st_cmp (op_neA hr.units) og_ne (se_meth T.tC_Link (by decide +kernel) T.cl_Link T.me_Link_act (ok_Link_act T) (hr.mono (by decide)) T.b_Link_act .nil (fun _ _ _ => .nil) (takes_of rfl rfl rfl rfl) (se_var 2) (sa_cons (se_var 12) sa_nil)) (se_var 13) (nomark _))
  (sb_one (ss_ret se_bl))
  sb_nil))))
  (sb_one (ss_if (st_cmp (op_eqA hr.units) og_eq (se_var 8) se_int (nomark _))
  (sb_cons (ss_set 13 sc_law.nd (se_if (st_cmp (op_eqA hr.units) og_eq (se_var 3) (se_lst sa_nil) (nomark _)) se_non (se_slice sl_all sg_all (se_bm PySem.F.plainAttrs_list PySem.F.slot_list_pop PySem.F.type_list_pop mt_popAt mg_popAt ty_list (se_var 3) (sa_cons se_int sa_nil)) so_none (so_some se_int))))
  (sb_cons (ss_set 5 sc_law.nd (se_op op_addA og_add (se_var 5) (se_callTy call_int1 fg_int (by rfl) T.z_int (by decide +kernel) (sa_cons (se_cmp op_isNotA og_isNot (se_var 13) se_non (nomark _)) sa_nil))))
  (sb_one (ss_if (st_cmp (op_neA hr.units) og_ne (se_meth0 T.tC_Link (by decide +kernel) T.cl_Link T.me_Link_next (ok_Link_next T) (hr.mono (by decide)) T.b_Link_next .nil (fun _ _ _ => .nil) (takes_of rfl rfl rfl rfl) (se_var 2)) (se_var 13) (nomark _))
  (sb_one (ss_ret se_bl))
  sb_nil))))
  (sb_cons (ss_set 6 sc_law.nd (se_not (se_var 6)))
  (sb_cons (ss_expr (se_meth T.tC_Link (by decide +kernel) T.cl_Link T.me_Link_set_up (ok_Link_set_up T) (hr.mono (by decide)) T.b_Link_set_up .nil (fun _ _ _ => .nil) (takes_of rfl rfl rfl rfl) (se_var 2) (sa_cons (se_var 6) sa_nil)))
  (sb_one (ss_par 4 3 rfl sc_law.nd (sa_cons (se_op op_addA og_add (se_var 4) (se_if (st_of (se_var 6)) se_int (se_callB call_len fg_len (by rfl) T.z_len (by decide +kernel) (sa_cons (se_var 3) sa_nil)))) (sa_cons (se_if (st_of (se_var 6)) (se_var 3) (se_lstR sa_nil)) sa_nil)))))))))))
  (sb_one (ss_if (SW.st (sw_or (st_cmp (op_neA hr.units) og_ne (se_fld 4 T.tC_Link rfl T.cl_Link T.na_Link_on_way (se_var 2)) (se_var 3) (nomark _)) (sw_or1 (st_cmp (op_neA hr.units) og_ne (se_tup (sa_cons (se_fld 5 T.tC_Link rfl T.cl_Link T.na_Link_lost (se_var 2)) (sa_cons (se_fld 6 T.tC_Link rfl T.cl_Link T.na_Link_arrived (se_var 2)) (sa_cons (se_fld 3 T.tC_Link rfl T.cl_Link T.na_Link_up (se_var 2)) sa_nil)))) (se_tup (sa_cons (se_var 4) (sa_cons (se_var 5) (sa_cons (se_var 6) sa_nil)))) (nomark _)))))
  (sb_one (ss_ret se_bl))
  sb_nil)))))
  (sb_cons (ss_set 10 sc_law.nd (se_callTy call_tuple_of fg_tuple (by rfl) T.z_tuple (by decide +kernel) (sa_cons (se_lc (own := [("k", 11)]) rfl sc_law.nd (si_range1 (by rfl) T.z_range (sa_cons (se_op op_addA og_add se_int (se_call (ok_law_roll T 4) (hr.mono (by decide)) (by rfl) T.m_law_roll T.k_law_roll T.b_law_roll .nil (fun _ _ _ => .nil) (takes_of rfl rfl rfl rfl) (sa_cons (se_var 1) (sa_cons se_int sa_nil)))) sa_nil)) (blkOk_by (N := n_law) (sc := defScope s_law) (by decide +kernel)) (ng_name (i := 11) (by decide)) (fun _ _ _ _ _ => pg_name (i := 11) sc_law.nd rfl (Or.inl rfl)) (fun _ _ _ _ _ => sts_nil) (fun _ _ _ _ _ => (se_call (ok_law_roll T 4) (hr.mono (by decide)) (by rfl) T.m_law_roll T.k_law_roll T.b_law_roll .nil (fun _ _ _ => .nil) tkNo (sa_cons (se_var 1) (sa_cons se_int sa_nil))))) sa_nil)))
  (sb_cons (ss_par 19 20 rfl sc_law.nd (sa_cons (se_call (ok_law_roll T 4) (hr.mono (by decide)) (by rfl) T.m_law_roll T.k_law_roll T.b_law_roll .nil (fun _ _ _ => .nil) (takes_of rfl rfl rfl rfl) (sa_cons (se_var 1) (sa_cons (se_callB call_len fg_len (by rfl) T.z_len (by decide +kernel) (sa_cons (se_var 10) sa_nil)) sa_nil))) (sa_cons (se_op op_addA og_add se_int (se_call (ok_law_roll T 4) (hr.mono (by decide)) (by rfl) T.m_law_roll T.k_law_roll T.b_law_roll .nil (fun _ _ _ => .nil) (takes_of rfl rfl rfl rfl) (sa_cons (se_var 1) (sa_cons se_int sa_nil)))) sa_nil)))
  (sb_one (ss_if (SW.st (sw_or (st_cmp (op_neA hr.units) og_ne (se_call (ok_bent_bytes T) (hr.mono (by decide)) (by rfl) T.m_bent_bytes T.k_bent_bytes T.b_bent_bytes .nil (fun _ _ _ => .nil) (takes_of rfl rfl rfl rfl) (sa_cons (se_var 10) (sa_cons (se_var 19) (sa_cons (se_var 20) sa_nil)))) (se_call (ok_law_bent T) (hr.mono (by decide)) (by rfl) T.m_law_bent T.k_law_bent T.b_law_bent .nil (fun _ _ _ => .nil) (takes_of rfl rfl rfl rfl) (sa_cons (se_var 10) (sa_cons (se_var 19) (sa_cons (se_var 20) sa_nil)))) (nomark _)) (sw_or (st_cmp (op_neA hr.units) og_ne (se_meth T.tC_Link (by decide +kernel) T.cl_Link T.me_Link_other (ok_Link_other T) (hr.mono (by decide)) T.b_Link_other .nil (fun _ _ _ => .nil) (takes_of rfl rfl rfl rfl) (se_var 2) (sa_cons se_str sa_nil)) se_str (nomark _)) (sw_or1 (st_cmp (op_neA hr.units) og_ne (se_told (k := 1) grab T.fun_law_told rfl (by rfl) T.m_law_told T.b_law_told sc_law_told rfl (.inl rfl) rfl T.e_RouteError (fun _ => rfl) T.hcat TB hcode T.tT_in T.tT_un (hr.mono (by decide)) (LamX.lamS_by (sc := defScope s_law) (by decide +kernel)) (hbody := fun A outer s H E f c' hr' => (se_meth T.tC_Link (by decide +kernel) T.cl_Link T.me_Link_other (ok_Link_other T) (hr'.mono (by decide)) T.b_Link_other .nil (fun _ _ _ => .nil) (takes_of rfl rfl rfl rfl) (se_var 2) (sa_cons se_str sa_nil)))) se_str (nomark _))))))
  (sb_one (ss_ret se_bl))
  sb_nil)))))))
  (sb_cons (ss_set 2 sc_law.nd (se_make T.tC_Link T.mk_Link (ok_Link_init T) (hr.mono (by decide)) (by rfl) T.mgc_Link T.b1_Link_init T.v1_Link_init (fun _ _ _ => .cons (.int _) .nil) (takes_of rfl rfl rfl rfl) (sa_cons se_str (sa_cons se_str sa_nil))))
  (sb_cons (ss_for (passes_of rfl) rfl (si_range1 (by rfl) T.z_range (sa_cons se_int sa_nil)) (sg_name 11 sc_law.nd)
  (sb_one (ss_expr (se_meth T.tC_Link (by decide +kernel) T.cl_Link T.me_Link_send (ok_Link_send T) (hr.mono (by decide)) T.b_Link_send .nil (fun _ _ _ => .nil) (takes_of rfl rfl rfl rfl) (se_var 2) (sa_cons se_str (sa_cons (se_tup (sa_cons (se_op op_mod og_mod (se_var 11) se_int) sa_nil)) sa_nil))))))
  (sb_cons (ss_if (SW.st (sw_or (st_cmp (op_neA hr.units) og_ne (se_callB call_len fg_len (by rfl) T.z_len (by decide +kernel) (sa_cons (se_fld 4 T.tC_Link rfl T.cl_Link T.na_Link_on_way (se_var 2)) sa_nil)) se_int (nomark _)) (sw_or1 (st_cmp (op_neA hr.units) og_ne (se_fld 5 T.tC_Link rfl T.cl_Link T.na_Link_lost (se_var 2)) se_int (nomark _)))))
  (sb_one (ss_ret se_bl))
  sb_nil)
  (sb_one (ss_ret (se_and (se_cmp (op_eqA hr.units) og_eq (se_told (k := 2) grab T.fun_law_told rfl (by rfl) T.m_law_told T.b_law_told sc_law_told rfl (.inl rfl) rfl T.e_RouteError (fun _ => rfl) T.hcat TB hcode T.tT_in T.tT_un (hr.mono (by decide)) (LamX.lamS_by (sc := defScope s_law) (by decide +kernel)) (hbody := fun A outer s H E f c' hr' => (se_make T.tC_Link T.mk_Link (ok_Link_init T) (hr'.mono (by decide)) (by rfl) T.mgc_Link T.b1_Link_init T.v1_Link_init (fun _ _ _ => .cons (.int _) .nil) (takes_of rfl rfl rfl rfl) (sa_cons se_str (sa_cons se_str sa_nil))))) se_str (nomark _)) (se_one (se_cmp (op_eqA hr.units) og_eq (se_told (k := 2) grab T.fun_law_told rfl (by rfl) T.m_law_told T.b_law_told sc_law_told rfl (.inl rfl) rfl T.e_RouteError (fun _ => rfl) T.hcat TB hcode T.tT_in T.tT_un (hr.mono (by decide)) (LamX.lamS_by (sc := defScope s_law) (by decide +kernel)) (hbody := fun A outer s H E f c' hr' => (se_make T.tC_Link T.mk_Link (ok_Link_init T) (hr'.mono (by decide)) (by rfl) T.mgc_Link T.b_Link_init .nil (fun _ _ _ => .nil) (takes_of rfl rfl rfl rfl) (sa_cons se_str (sa_cons se_str (sa_cons se_int sa_nil)))))) se_str (nomark _))))))))))
end
end G04
set_option Elab.async false
set_option linter.all false
set_option maxRecDepth 100000
set_option maxHeartbeats 4000000
namespace G04
open PySem PySem.Spec PyProof.Rows L2 Fw
def Dice (c : Cel) : Prop := ∃ a b m : Int, c = .lst [.int a, .int b, .int m]
theorem roll {st : Sto} {d : Nat} {c : Cel} {many : Int} (h : st[d]? = some c) (hc : Dice c) (h0 : 0 < many) (h1 : many ≤ 100000000) {P : PV → Sto → Prop} (k : ∀ (x : Int) (c : Cel), 0 ≤ x → x < many → Dice c → P (.int x) (st.set d c)) : (c_law_roll 4 [.ref d, .int many] st).sat P := by
  obtain ⟨a, b, m, rfl⟩ := hc
  have hlt : many < 2 ^ 64 := by omega
  have hd : celR st d = some [.int a, .int b, .int m] := celR_of h
  have hm : ¬ 100000000 < many := by omega
  have e2 : ∀ x : Int, 0 ≤ x % many ∧ x % many < many := fun x => ⟨Int.emod_nonneg _ (by omega), Int.emod_lt_of_pos _ h0⟩
  have fin : ∀ (x a b c : Int), P (.int (x % many)) (st.set d (.lst [.int a, .int b, .int c])) := fun x a b c => k _ _ (e2 x).1 (e2 x).2 ⟨a, b, c, rfl⟩
  unfold c_law_roll
  simp [hd, h0, vDiv h0 hlt, ixN, celR_set (st := st) _ _ _ hd, hm]
  repeat' split
  all_goals exact fin _ _ _ _
abbrev kd (o : Str) (zs : List Int) (b : Bool) : PV := .tup [.str o, .tup (zs.map .int), .bl b]
structure Way (ys : List PV) : Prop where
  all : ∀ y ∈ ys, ∃ (o : Str) (zs : List Int) (b : Bool), y = kd o zs b ∧ (o = "a" ∨ o = "b") ∧ zs.length ≤ 9
  len : ys.length ≤ 200
abbrev lkF (room : Int) (up : Bool) (w : Nat) (lost arr : Int) : List (Option PV) := [some (.str "a"), some (.str "b"), some (.int room), some (.bl up), some (.ref w), some (.int lost), some (.int arr)]
structure Stt (st : Sto) (d l w v : Nat) (room : Int) (ys : List PV) (lost arr : Int) (up : Bool) : Prop where
  dice : ∃ c, st[d]? = some c ∧ Dice c
  lk : insR st 0 l = some (lkF room up w lost arr)
  wy : celR st w = some ys
  vy : celR st v = some ys
  dw : d ≠ w
  dv : d ≠ v
  wv : w ≠ v
  way : Way ys
theorem Stt.dl {st d l w v room ys lost arr up} (S : Stt st d l w v room ys lost arr up) : d ≠ l := by
  obtain ⟨c, h, a, b, m, rfl⟩ := S.dice
  exact cel_ins (celR_of h) S.lk
theorem Stt.wl {st d l w v room ys lost arr up} (S : Stt st d l w v room ys lost arr up) : w ≠ l := cel_ins S.wy S.lk
theorem Stt.vl {st d l w v room ys lost arr up} (S : Stt st d l w v room ys lost arr up) : v ≠ l := cel_ins S.vy S.lk
theorem Stt.roll {st d l w v room ys lost arr up} (S : Stt st d l w v room ys lost arr up) {c : Cel} (hc : Dice c) : Stt (st.set d c) d l w v room ys lost arr up := by
  obtain ⟨c0, h, _⟩ := S.dice
  exact ⟨⟨c, get_set_self h, hc⟩, by rw [insR_ne S.dl]; exact S.lk, by rw [celR_ne S.dw]; exact S.wy, by rw [celR_ne S.dv]; exact S.vy, S.dw, S.dv, S.wv, S.way⟩
theorem Stt.rl {st d l w v room ys lost arr up} (S : Stt st d l w v room ys lost arr up) {many : Int} (h0 : 0 < many) (h1 : many ≤ 100000000) {P : PV → Sto → Prop} (k : ∀ (x : Int) (s : Sto), 0 ≤ x → x < many → Stt s d l w v room ys lost arr up → P (.int x) s) : (c_law_roll 4 [.ref d, .int many] st).sat P := by
  obtain ⟨c, h, hc⟩ := S.dice
  exact G04.roll h hc h0 h1 fun x c a b hc => k x _ a b (S.roll hc)
theorem ints_pl (zs : List Int) (n : Nat) : ∀ x ∈ zs.map PV.int, Pl n x := fun x hx => by
  obtain ⟨i, _, rfl⟩ := List.mem_map.mp hx
  exact .int n i
theorem pl_ab {o : Str} (h : o = "a" ∨ o = "b") : PyData.strOk o = true := by rcases h with rfl | rfl <;> decide +kernel
theorem Way.pl {ys : List PV} (h : Way ys) : ∀ y ∈ ys, Pl 2 y := fun y hy => by
  obtain ⟨o, xs, b, rfl, ho, hi⟩ := h.all y hy
  refine .tup 1 _ fun x hx => ?_
  simp at hx
  rcases hx with rfl | rfl | rfl
  · exact .str 1 _ (pl_ab ho)
  · exact .tup 0 _ (ints_pl xs 0)
  · exact .bl 1 b
/-- the lists of the link and of the law are set alike -/
theorem Stt.both {st d l w v room ys lost arr up} (S : Stt st d l w v room ys lost arr up) {zs : List PV} (hz : Way zs) (lost2 arr2 : Int) (a b : Sto) : True := trivial
theorem nba : ¬ ("b" : Str) = "a" := by decide +kernel
theorem nab : ¬ ("a" : Str) = "b" := by decide +kernel
theorem other_ab {st : Sto} {l w : Nat} {room lost arr : Int} {up : Bool} (h : insR st 0 l = some (lkF room up w lost arr)) {e : Str} (he : e = "a" ∨ e = "b") {P : PV → Sto → Prop} (k : P (.str (if e = "a" then "b" else "a")) st) : (c_Link_other [.ref l, .str e] st).sat P := by
  unfold c_Link_other
  rcases he with rfl | rfl
  · simpa [t_Link_other_27, h] using k
  · simpa [t_Link_other_27, h, nba] using k
theorem send_ab {st : Sto} {l w : Nat} {room lost arr : Int} {up : Bool} {ys : List PV} (h : insR st 0 l = some (lkF room up w lost arr)) (hw : celR st w = some ys) (hl : ys.length ≤ 200) {e : Str} (he : e = "a" ∨ e = "b") {zs : List Int} {P : PV → Sto → Prop}
    (k1 : up = true → ys.length < 200 → P .non (st.set w (.lst (ys ++ [kd (if e = "a" then "b" else "a") zs false])))) (k2 : ¬ (up = true ∧ ys.length < 200) → P .non (st.set l (.ins 0 (lkF room up w (lost + 1) arr)))) : (c_Link_send [.ref l, .str e, .tup (zs.map .int)] st).sat P := by
  unfold c_Link_send
  have hs : ys.length ≤ 1000000 := by omega
  simp [h]
  refine other_ab h he ?_
  simp [t_Link_send_31, h, hw, hs]
  by_cases hu : up = true
  · subst hu
    by_cases hy : 200 ≤ (ys.length : Int)
    · simp [hy]; exact k2 (by omega)
    · simp [hy]; exact k1 rfl (by omega)
  · rw [if_neg hu]; exact k2 (by simp [hu])
theorem set_up_ab {st : Sto} {l w : Nat} {room lost arr : Int} {up : Bool} {ys : List PV} (h : insR st 0 l = some (lkF room up w lost arr)) (hw : celR st w = some ys) {u : Bool} {P : PV → Sto → Prop}
    (k1 : u = true → P .non (st.set l (.ins 0 (lkF room true w lost arr)))) (k2 : u = false → P .non ((st.set l (.ins 0 (lkF room false w (lost + ys.length) arr)) ++ [Cel.lst []]).set l (.ins 0 (lkF room false st.length (lost + ys.length) arr)))) : (c_Link_set_up [.ref l, .bl u] st).sat P := by
  have hwl := cel_ins hw h
  have hl := insR_lt h
  unfold c_Link_set_up
  cases u with
  | true => simp [t_Link_set_up_38, h]; exact k1 rfl
  | false =>
    have a1 := insR_set (lkF room false w lost arr) h
    have a2 := insR_set (lkF room false w (lost + ys.length) arr) a1
    have a3 := insR_app (c := .lst []) a2
    simp only [List.set_set] at a3
    simp [t_Link_set_up_38, t_Link_set_up_40, h, a1, a3, celR_ne hwl.symm, hw]
    exact k2 rfl
def bentP (zs : List Int) (a : Int) (p : Nat) (ch : Int) : List Int := if (a = 126 ∨ a = 125) ∨ ((a + ch) % 256 = 126 ∨ (a + ch) % 256 = 125) ∨ (0 < p ∧ zs[p - 1]? = some 125) then zs else zs.take p ++ [(a + ch) % 256] ++ zs.drop (p + 1)
theorem bentP_len {zs : List Int} {a : Int} {p : Nat} {ch : Int} (h : p < zs.length) : (bentP zs a p ch).length = zs.length := by
  unfold bentP
  split
  · rfl
  · simp; omega
theorem bent1 {st : Sto} {zs : List Int} (hi : zs.length ≤ 9) {p : Nat} {a ch : Int} (hp : zs[p]? = some a) {P : PV → Sto → Prop} (k : P (.tup ((bentP zs a p ch).map .int)) st) : (c_bent_bytes [.tup (zs.map .int), .int p, .int ch] st).sat P := by
  unfold c_bent_bytes
  have hlt := (List.getElem?_eq_some_iff.mp hp).1
  have c1 : cutL (zs.map PV.int) none (some (p : Int)) = (zs.map PV.int).take p := cutL_take _ _ (by simp; omega)
  have c2 : cutL (zs.map PV.int) (some ((p : Int) + 1)) none = (zs.map PV.int).drop (p + 1) := cutL_drop _ (p + 1) (by simp; omega)
  have at0 : L2.atI (zs.map PV.int) (p : Int) = some (.int a) := atI_at (by simp [hp])
  have h1 : min p zs.length + 1 ≤ 1000000 := by omega
  have h2 : min p zs.length + (1 + (zs.length - (p + 1))) ≤ 1000000 := by omega
  have h3 : min p zs.length + 1 + (zs.length - (p + 1)) ≤ 1000000 := by omega
  unfold bentP at k
  by_cases hp0 : 0 < p
  · obtain ⟨b, hb⟩ : ∃ b, zs[p - 1]? = some b := ⟨_, List.getElem?_eq_getElem (by omega)⟩
    have at1 : L2.atI (zs.map PV.int) ((p : Int) - 1) = some (.int b) := by
      rw [show (p : Int) - 1 = ((p - 1 : Nat) : Int) by omega]
      exact atI_at (by simp [hb])
    simp [t_bent_bytes_70, t_bent_bytes_72, at0, at1, c1, c2, hp0, h1, h2, h3]
    simp [hp0, hb] at k
    split at k <;> (repeat' split) <;> first | exact k | (exfalso; omega) | simpa using k
  · simp [t_bent_bytes_70, t_bent_bytes_72, at0, c1, c2, hp0, h1, h2, h3]
    simp [hp0] at k
    split at k <;> (repeat' split) <;> first | exact k | (exfalso; omega) | simpa using k
theorem bent2 {st : Sto} {zs : List Int} (hi : zs.length ≤ 9) {p : Nat} {a ch : Int} (hp : zs[p]? = some a) {P : PV → Sto → Prop} (k : P (.tup ((bentP zs a p ch).map .int)) st) : (c_law_bent [.tup (zs.map .int), .int p, .int ch] st).sat P := by
  unfold c_law_bent
  have hlt := (List.getElem?_eq_some_iff.mp hp).1
  have c1 : cutL (zs.map PV.int) none (some (p : Int)) = (zs.map PV.int).take p := cutL_take _ _ (by simp; omega)
  have c2 : cutL (zs.map PV.int) (some ((p : Int) + 1)) none = (zs.map PV.int).drop (p + 1) := cutL_drop _ (p + 1) (by simp; omega)
  have at0 : L2.atI (zs.map PV.int) (p : Int) = some (.int a) := atI_at (by simp [hp])
  have h1 : min p zs.length + 1 ≤ 1000000 := by omega
  have h2 : min p zs.length + (1 + (zs.length - (p + 1))) ≤ 1000000 := by omega
  have h3 : min p zs.length + 1 + (zs.length - (p + 1)) ≤ 1000000 := by omega
  unfold bentP at k
  by_cases hp0 : 0 < p
  · obtain ⟨b, hb⟩ : ∃ b, zs[p - 1]? = some b := ⟨_, List.getElem?_eq_getElem (by omega)⟩
    have at1 : L2.atI (zs.map PV.int) ((p : Int) - 1) = some (.int b) := by
      rw [show (p : Int) - 1 = ((p - 1 : Nat) : Int) by omega]
      exact atI_at (by simp [hb])
    simp [t_law_bent_101, t_law_bent_103, at0, at1, c1, c2, hp0, h1, h2, h3]
    simp [hp0, hb] at k
    split at k <;> (repeat' split) <;> first | exact k | (exfalso; omega) | simpa using k
  · simp [t_law_bent_101, t_law_bent_103, at0, c1, c2, hp0, h1, h2, h3]
    simp [hp0] at k
    split at k <;> (repeat' split) <;> first | exact k | (exfalso; omega) | simpa using k
theorem dneg {n : Nat} : ¬ ((n : Int) < 0) := by omega
theorem act_ab {st : Sto} {l w : Nat} {room lost arr : Int} {up : Bool} {ys : List PV} (h : insR st 0 l = some (lkF room up w lost arr)) (hw : celR st w = some ys) (hy : Way ys) {c : Nat} {P : PV → Sto → Prop}
    (k0 : ys = [] → P .non st)
    (k1 : ∀ (o : Str) (zs : List Int) (a : Int), ys[c % ys.length]? = some (kd o zs false) → c / ys.length % 6 = 5 → zs ≠ [] → zs[c / ys.length / 6 % zs.length]? = some a → P .non (st.set w (.lst (ys.set (c % ys.length) (kd o (bentP zs a (c / ys.length / 6 % zs.length) (1 + ((c / ys.length / 6 / zs.length % 255 : Nat) : Int))) true)))))
    (k2 : ∀ (o : Str) (zs : List Int) (b : Bool), ys[c % ys.length]? = some (kd o zs b) → ¬ (c / ys.length % 6 = 5 ∧ b = false ∧ zs ≠ []) → c / ys.length % 6 = 4 → P (.tup [.str o, .tup (zs.map .int)]) ((st.set w (.lst (ys.eraseIdx (c % ys.length) ++ [kd o zs b]))).set l (.ins 0 (lkF room up w lost (arr + 1)))))
    (k3 : ∀ (o : Str) (zs : List Int) (b : Bool), ys[c % ys.length]? = some (kd o zs b) → c / ys.length % 6 = 3 → P .non ((st.set w (.lst (ys.eraseIdx (c % ys.length)))).set l (.ins 0 (lkF room up w (lost + 1) arr))))
    (k4 : ∀ (o : Str) (zs : List Int) (b : Bool), ys[c % ys.length]? = some (kd o zs b) → ¬ (c / ys.length % 6 = 5 ∧ b = false ∧ zs ≠ []) → c / ys.length % 6 ≠ 4 → c / ys.length % 6 ≠ 3 → P (.tup [.str o, .tup (zs.map .int)]) ((st.set w (.lst (ys.eraseIdx (c % ys.length)))).set l (.ins 0 (lkF room up w lost (arr + 1))))) : (c_Link_act [.ref l, .int c] st).sat P := by
  have hwl := cel_ins hw h
  have hl := insR_lt h
  have e0 : fEq st (.ref w) (.lv []) = some (.bl (decide (ys = []))) := by rw [v_fEq, eqB_cell_nil hw hy.pl (by decide)]; rfl
  unfold c_Link_act
  by_cases hn : ys = []
  · simp [h, e0, hn]; exact k0 hn
  · have hpos : 0 < ys.length := List.length_pos_iff.mpr hn
    have hle := hy.len
    obtain ⟨m, em⟩ : ∃ m, m = c % ys.length := ⟨_, rfl⟩
    obtain ⟨q, eq⟩ : ∃ m, m = c / ys.length := ⟨_, rfl⟩
    obtain ⟨D, eD⟩ : ∃ m, m = q % 6 := ⟨_, rfl⟩
    have hm : m < ys.length := by rw [em]; exact Nat.mod_lt _ hpos
    rw [← em, ← eq] at k1 k2 k3 k4
    rw [← eD] at k1 k2 k3 k4
    have i1 : (c : Int) % (ys.length : Int) = (m : Int) := by rw [em]; rfl
    have i2 : (c : Int) / (ys.length : Int) = (q : Int) := by rw [eq]; rfl
    have i3 : (q : Int) % 6 = (D : Int) := by rw [eD]; rfl
    obtain ⟨y, hyc⟩ : ∃ y, ys[m]? = some y := ⟨_, List.getElem?_eq_getElem hm⟩
    obtain ⟨o, zs, b, rfl, ho, hz⟩ := hy.all y (List.mem_of_getElem? hyc)
    have p1 : (0 : Int) < (ys.length : Int) := by omega
    have p2 : ((ys.length : Int)) < 2 ^ 64 := by omega
    have hat : L2.atI ys (m : Int) = some (kd o zs b) := atI_at hyc
    have e1 : fNe st (.tup (zs.map .int)) (.tup []) = some (.bl (!decide (zs = []))) := by rw [v_fNe, eqB_tup_nil (ints_pl zs 1) (by decide)]; simp
    have m2 : (m : Int) < 2 ^ 63 := by omega
    have hsz : (ys.eraseIdx m).length ≤ 1000000 := by have := List.length_eraseIdx_le ys m; omega
    have pop : mPopAt st (.ref w) [.int (m : Int)] = some (kd o zs b, st.set w (.lst (ys.eraseIdx m))) := v_popAt hw hyc m2
    have w1 := celR_set w (ys.eraseIdx m) ys hw
    have w2 := celR_set (st := st) w (ys.eraseIdx m ++ [kd o zs b]) ys hw
    have l1 : insR (st.set w (.lst (ys.eraseIdx m))) 0 l = some (lkF room up w lost arr) := by rw [insR_ne hwl]; exact h
    have l2 : insR (st.set w (.lst (ys.eraseIdx m ++ [kd o zs b]))) 0 l = some (lkF room up w lost arr) := by rw [insR_ne hwl]; exact h
    simp [t_Link_act_45, t_Link_act_46, t_Link_act_47, h, e0, hn, hw, vMod p1, vDiv p1 p2, i1, i2, i3, hat]
    by_cases d5 : D = 5 ∧ b = false ∧ zs ≠ []
    · obtain ⟨d5, rfl, hz0⟩ := d5
      have zpos : 0 < zs.length := List.length_pos_iff.mpr hz0
      obtain ⟨u, eu⟩ : ∃ u, u = q / 6 % zs.length := ⟨_, rfl⟩
      obtain ⟨v, ev⟩ : ∃ u, u = q / 6 / zs.length % 255 := ⟨_, rfl⟩
      have hu : u < zs.length := by rw [eu]; exact Nat.mod_lt _ zpos
      obtain ⟨a, ha⟩ : ∃ a, zs[u]? = some a := ⟨_, List.getElem?_eq_getElem hu⟩
      have j1 : (q : Int) / 6 % (zs.length : Int) = (u : Int) := by rw [eu]; rfl
      have j2 : (q : Int) / 6 / (zs.length : Int) % 255 = (v : Int) := by rw [ev]; rfl
      have q1 : (0 : Int) < (zs.length : Int) := by omega
      have q2 : ((zs.length : Int)) < 2 ^ 64 := by omega
      have k1' := k1 o zs a hyc d5 hz0
      rw [← eu, ← ev] at k1'
      simp [t_Link_act_48, t_Link_act_50, t_Link_act_51, t_Link_act_52, d5, e1, hz0, i1, i2, i3, j1, j2, vMod p1, vMod q1, vDiv p1 p2, vDiv q1 q2]
      refine bent1 hz ha ?_
      have ix : ixN ys.length (m : Int) = some m := by
        have : (m : Int) < (ys.length : Int) := by omega
        simp [ixN, this]
      simpa [h, hw, ix] using k1' ha
    · have rest : (t_Link_act_53 [some (.ref l), some (.int c), some (.int ys.length), some (.int m), some (.int D), some (.str o), some (.tup (zs.map .int)), some (.bl b), none, none] st).sat (fun _ s => P .non s) P := by
        by_cases d4 : D = 4
        · have := k2 o zs b hyc d5 d4
          simp [t_Link_act_53, t_Link_act_54, t_Link_act_56, t_Link_act_59, t_Link_act_60, h, hw, pop, d4, w1, w2, l1, l2, hsz]
          exact this
        · by_cases d3 : D = 3
          · have := k3 o zs b hyc d3
            simp [t_Link_act_53, t_Link_act_54, t_Link_act_56, t_Link_act_58, h, hw, pop, d3, w1, l1]
            exact this
          · have := k4 o zs b hyc d5 d4 d3
            have n4 : ¬ (D : Int) = 4 := by omega
            have n3 : ¬ (D : Int) = 3 := by omega
            simp [t_Link_act_53, t_Link_act_54, t_Link_act_56, t_Link_act_59, t_Link_act_60, h, hw, pop, n4, n3, w1, l1]
            exact this
      by_cases d : D = 5
      · cases b with
        | true => simp [t_Link_act_48, d]; simpa [d] using rest
        | false =>
          by_cases hz0 : zs = []
          · subst hz0
            have e2 : fNe st (.tup []) (.tup []) = some (.bl false) := by simpa using e1
            simp [t_Link_act_48, d, e2]; simpa [d] using rest
          · exact absurd ⟨d, rfl, hz0⟩ d5
      · have nd : ¬ (D : Int) = 5 := by omega
        simp [t_Link_act_48, nd]; exact rest
theorem next_ab {st : Sto} {l w : Nat} {room lost arr : Int} {up : Bool} {ys : List PV} (h : insR st 0 l = some (lkF room up w lost arr)) (hw : celR st w = some ys) (hy : Way ys) {P : PV → Sto → Prop}
    (k0 : ys = [] → P .non st) (k1 : ∀ (o : Str) (zs : List Int) (b : Bool) (t : List PV), ys = kd o zs b :: t → P (.tup [.str o, .tup (zs.map .int)]) ((st.set w (.lst t)).set l (.ins 0 (lkF room up w lost (arr + 1))))) : (c_Link_next [.ref l] st).sat P := by
  have hwl := cel_ins hw h
  have e0 : fEq st (.ref w) (.lv []) = some (.bl (decide (ys = []))) := by rw [v_fEq, eqB_cell_nil hw hy.pl (by decide)]; rfl
  unfold c_Link_next
  cases ys with
  | nil => simp [h, e0]; exact k0 rfl
  | cons y t =>
    obtain ⟨o, zs, b, rfl, ho, hz⟩ := hy.all y (List.mem_cons_self ..)
    have pop : mPopAt st (.ref w) [.int 0] = some (kd o zs b, st.set w (.lst t)) := v_popAt (j := 0) hw rfl (by decide)
    have l1 : insR (st.set w (.lst t)) 0 l = some (lkF room up w lost arr) := by rw [insR_ne hwl]; exact h
    simp [t_Link_next_65, t_Link_next_66, t_Link_next_67, h, e0, hw, pop, l1]
    exact k1 o zs b t rfl
/-! the law's loop -/
def InvI (sc : PV) (d : Nat) (r : Rho) (s : Sto) : Prop := ∃ (l w v : Nat) (room : Int) (ys : List PV) (lost arr : Int) (up : Bool) (o7 o8 o9 o10 o11 o12 o13 o14 o15 o16 o17 o18 o19 o20 : Option PV),
  r = [some sc, some (.ref d), some (.ref l), some (.ref v), some (.int lost), some (.int arr), some (.bl up), o7, o8, o9, o10, o11, o12, o13, o14, o15, o16, o17, o18, o19, o20] ∧ Stt s d l w v room ys lost arr up
theorem chk {sc : PV} {s : Sto} {d l w v : Nat} {room : Int} {ys : List PV} {lost arr : Int} {up : Bool} (S : Stt s d l w v room ys lost arr up) (o7 o8 o9 o10 o11 o12 o13 o14 o15 o16 o17 o18 o19 o20 : Option PV) {N : Rho → Sto → Prop} {R : PV → Sto → Prop}
    (k : ∀ r s, InvI sc d r s → N r s) : (t_law_141 [some sc, some (.ref d), some (.ref l), some (.ref v), some (.int lost), some (.int arr), some (.bl up), o7, o8, o9, o10, o11, o12, o13, o14, o15, o16, o17, o18, o19, o20] s).sat N R := by
  have e1 : fNe s (.ref w) (.ref v) = some (.bl false) := by rw [v_fNe, eqB_cells S.wy S.vy S.way.pl (by decide)]; rfl
  have hp : Pl 1 (.tup [.int lost, .int arr, .bl up]) := .tup 0 _ fun x hx => by
    simp at hx
    rcases hx with rfl | rfl | rfl
    · exact .int _ _
    · exact .int _ _
    · exact .bl _ _
  have e2 : fNe s (.tup [.int lost, .int arr, .bl up]) (.tup [.int lost, .int arr, .bl up]) = some (.bl false) := by rw [v_fNe, eqB_pl hp (by decide)]; rfl
  simp [t_law_141, S.lk, e1, e2]
  exact k _ _ ⟨l, w, v, room, ys, lost, arr, up, o7, o8, o9, o10, o11, o12, o13, o14, o15, o16, o17, o18, o19, o20, rfl, S⟩
theorem Stt.setL {s d l w v room ys lost arr up} (S : Stt s d l w v room ys lost arr up) (lost2 arr2 : Int) (up2 : Bool) : Stt (s.set l (.ins 0 (lkF room up2 w lost2 arr2))) d l w v room ys lost2 arr2 up2 := by
  obtain ⟨c, h, hc⟩ := S.dice
  exact ⟨⟨c, by rw [List.getElem?_set_ne S.dl.symm]; exact h, hc⟩, insR_set _ S.lk, by rw [celR_ne S.wl.symm]; exact S.wy, by rw [celR_ne S.vl.symm]; exact S.vy, S.dw, S.dv, S.wv, S.way⟩
theorem Stt.setWV {s d l w v room ys lost arr up} (S : Stt s d l w v room ys lost arr up) {zs : List PV} (hz : Way zs) : Stt ((s.set w (.lst zs)).set v (.lst zs)) d l w v room zs lost arr up := by
  obtain ⟨c, h, hc⟩ := S.dice
  have vy : celR (s.set w (.lst zs)) v = some ys := by rw [celR_ne S.wv]; exact S.vy
  exact ⟨⟨c, by rw [List.getElem?_set_ne S.dv.symm, List.getElem?_set_ne S.dw.symm]; exact h, hc⟩, by rw [insR_ne S.vl, insR_ne S.wl]; exact S.lk, by rw [celR_ne S.wv.symm]; exact celR_set _ _ _ S.wy, celR_set _ _ _ vy, S.dw, S.dv, S.wv, hz⟩
theorem Stt.setVW {s d l w v room ys lost arr up} (S : Stt s d l w v room ys lost arr up) {zs : List PV} (hz : Way zs) : Stt ((s.set v (.lst zs)).set w (.lst zs)) d l w v room zs lost arr up := by
  obtain ⟨c, h, hc⟩ := S.dice
  have wy : celR (s.set v (.lst zs)) w = some ys := by rw [celR_ne S.wv.symm]; exact S.wy
  exact ⟨⟨c, by rw [List.getElem?_set_ne S.dw.symm, List.getElem?_set_ne S.dv.symm]; exact h, hc⟩, by rw [insR_ne S.wl, insR_ne S.vl]; exact S.lk, celR_set _ _ _ wy, by rw [celR_ne S.wv]; exact celR_set _ _ _ S.vy, S.dw, S.dv, S.wv, hz⟩
theorem Way.app {ys : List PV} (h : Way ys) (hl : ys.length < 200) {o : Str} {zs : List Int} {b : Bool} (ho : o = "a" ∨ o = "b") (hz : zs.length ≤ 9) : Way (ys ++ [kd o zs b]) :=
  ⟨fun y hy => by
    rcases List.mem_append.mp hy with q | q
    · exact h.all y q
    · exact ⟨o, zs, b, List.mem_singleton.mp q, ho, hz⟩, by simp; omega⟩
theorem Way.sub {ys zs : List PV} (h : Way ys) (hs : ∀ y ∈ zs, y ∈ ys) (hl : zs.length ≤ ys.length) : Way zs := ⟨fun y hy => h.all y (hs y hy), Nat.le_trans hl h.len⟩
theorem flip_ab {e : Str} (he : e = "a" ∨ e = "b") : (if e = "a" then ("b" : Str) else "a") = "a" ∨ (if e = "a" then ("b" : Str) else "a") = "b" := by
  rcases he with rfl | rfl
  · exact .inr (if_pos rfl)
  · exact .inl (if_neg nba)
section
variable {sc : PV} {s : Sto} {d l w v : Nat} {room : Int} {ys : List PV} {lost arr : Int} {up : Bool} {o7 o8 o9 o10 o11 o12 o13 o14 o15 o16 o17 o18 o19 o20 : Option PV} {R : PV → Sto → Prop}
theorem brA (S : Stt s d l w v room ys lost arr up) {e : Str} (he : e = "a" ∨ e = "b") {zs : List Int} (hz : zs.length ≤ 9) :
    (t_law_111 [some sc, some (.ref d), some (.ref l), some (.ref v), some (.int lost), some (.int arr), some (.bl up), o7, o8, some (.str e), some (.tup (zs.map .int)), o11, o12, o13, o14, o15, o16, o17, o18, o19, o20] s).sat (fun r s => (t_law_141 r s).sat (InvI sc d) R) R := by
  simp [t_law_111, S.lk]
  refine send_ab S.lk S.wy S.way.len he (fun hu hl => ?_) fun hn => ?_
  · subst hu
    have vy : celR (s.set w (.lst (ys ++ [kd (if e = "a" then "b" else "a") zs false]))) v = some ys := by rw [celR_ne S.wv]; exact S.vy
    have hlt : (ys.length : Int) < 200 := by omega
    have hsz : ys.length ≤ 1000000 := by omega
    simp [t_law_112, vy, hlt, hsz]
    have K := chk (sc := sc) (R := R) (N := InvI sc d) (S.setWV (S.way.app (b := false) hl (flip_ab he) hz)) o7 o8 (some (.str e)) (some (.tup (zs.map .int))) o11 o12 o13 o14 o15 o16 o17 o18 o19 o20 fun _ _ h => h
    split
    · rename_i q; simpa [q] using K
    · rename_i q; simpa [q] using K
  · have vy : celR (s.set l (.ins 0 (lkF room up w (lost + 1) arr))) v = some ys := by rw [celR_ne S.vl.symm]; exact S.vy
    cases up with
    | true =>
      have hlt : ¬ (ys.length : Int) < 200 := fun z => hn ⟨rfl, by omega⟩
      simp [t_law_112, vy, hlt]
      exact chk (S.setL _ _ _) _ _ _ _ _ _ _ _ _ _ _ _ _ _ fun _ _ h => h
    | false =>
      simp [t_law_112]
      exact chk (S.setL _ _ _) _ _ _ _ _ _ _ _ _ _ _ _ _ _ fun _ _ h => h
theorem brD (S : Stt s d l w v room ys lost arr up) (u : Bool) :
    (t_law_139 [some sc, some (.ref d), some (.ref l), some (.ref v), some (.int lost), some (.int arr), some (.bl u), o7, o8, o9, o10, o11, o12, o13, o14, o15, o16, o17, o18, o19, o20] s).sat (fun r s => (t_law_141 r s).sat (InvI sc d) R) R := by
  simp [t_law_139, S.lk]
  refine set_up_ab S.lk S.wy (fun hu => ?_) fun hu => ?_
  · subst hu
    simp [t_law_140]
    exact chk (S.setL _ _ _) _ _ _ _ _ _ _ _ _ _ _ _ _ _ fun _ _ h => h
  · subst hu
    have S2 := S.setL (lost + ys.length) arr false
    have hl := insR_lt S2.lk
    have lk3 := insR_app (c := .lst []) S2.lk
    have vy : celR ((s.set l (.ins 0 (lkF room false w (lost + ys.length) arr)) ++ [Cel.lst []]).set l (.ins 0 (lkF room false s.length (lost + ys.length) arr))) v = some ys := by rw [celR_ne S.vl.symm]; exact celR_app S2.vy
    obtain ⟨X, eX⟩ : ∃ X, X = (s.set l (.ins 0 (lkF room false w (lost + ys.length) arr)) ++ [Cel.lst []]).set l (.ins 0 (lkF room false s.length (lost + ys.length) arr)) := ⟨_, rfl⟩
    have lX : X.length = s.length + 1 := by rw [eX]; simp
    have ne1 : l ≠ s.length := by simp at hl; omega
    have kX : insR X 0 l = some (lkF room false s.length (lost + ys.length) arr) := by rw [eX]; exact insR_set _ lk3
    have wX : celR X s.length = some [] := by
      rw [eX, celR_ne ne1]
      have := celR_new (st := s.set l (.ins 0 (lkF room false w (lost + ys.length) arr))) []
      rwa [List.length_set] at this
    rw [← eX] at vy ⊢
    obtain ⟨c, h, hc⟩ := S2.dice
    have hdl := (List.getElem?_eq_some_iff.mp h).1
    have dX : X[d]? = some c := by rw [eX, List.getElem?_set_ne S.dl.symm, List.getElem?_append_left hdl]; exact h
    simp [t_law_140, vy]
    refine chk (l := l) (w := s.length) (v := X.length) (room := room) (ys := []) ⟨⟨c, ?_, hc⟩, insR_app kX, celR_app wX, celR_new [], ?_, ?_, ?_, ⟨by simp, by simp⟩⟩ _ _ _ _ _ _ _ _ _ _ _ _ _ _ fun _ _ h => h
    · rw [List.getElem?_append_left (by simp at hdl; omega)]; exact dX
    · simp at hdl; omega
    · simp at hdl; omega
    · omega
theorem brB (S : Stt s d l w v room ys lost arr up) (c : Nat) :
    (t_law_118 [some sc, some (.ref d), some (.ref l), some (.ref v), some (.int lost), some (.int arr), some (.bl up), o7, o8, o9, o10, o11, some (.int c), some .non, o14, o15, o16, o17, o18, o19, o20] s).sat (fun r s => (t_law_141 r s).sat (InvI sc d) R) R := by
  have e0 : fNe s (.ref v) (.lv []) = some (.bl (!decide (ys = []))) := by rw [v_fNe, eqB_cell_nil S.vy S.way.pl (by decide)]; rfl
  have hle := S.way.len
  by_cases hn : ys = []
  · simp [t_law_118, e0, hn, t_law_130, S.lk]
    have nn : ∀ s, fNe s .non .non = some (.bl false) := fun s => rfl
    refine act_ab S.lk S.wy S.way (fun _ => ?_) (fun o zs a h => ?_) (fun o zs a h => ?_) (fun o zs a h => ?_) (fun o zs a h => ?_)
    · simp [nn]
      exact chk S _ _ _ _ _ _ _ _ _ _ _ _ _ _ fun _ _ h => h
    all_goals (rw [hn] at h; simp at h)
  · have hpos : 0 < ys.length := List.length_pos_iff.mpr hn
    obtain ⟨m, em⟩ : ∃ m, m = c % ys.length := ⟨_, rfl⟩
    obtain ⟨q, eq⟩ : ∃ m, m = c / ys.length := ⟨_, rfl⟩
    obtain ⟨D, eD⟩ : ∃ m, m = q % 6 := ⟨_, rfl⟩
    have hm : m < ys.length := by rw [em]; exact Nat.mod_lt _ hpos
    have i1 : (c : Int) % (ys.length : Int) = (m : Int) := by rw [em]; rfl
    have i2 : (c : Int) / (ys.length : Int) = (q : Int) := by rw [eq]; rfl
    have i3 : (q : Int) % 6 = (D : Int) := by rw [eD]; rfl
    obtain ⟨y, hyc⟩ : ∃ y, ys[m]? = some y := ⟨_, List.getElem?_eq_getElem hm⟩
    obtain ⟨o, zs, b, rfl, ho, hz⟩ := S.way.all y (List.mem_of_getElem? hyc)
    have p1 : (0 : Int) < (ys.length : Int) := by omega
    have p2 : ((ys.length : Int)) < 2 ^ 64 := by omega
    have hat : L2.atI ys (m : Int) = some (kd o zs b) := atI_at hyc
    have e1 : fNe s (.tup (zs.map .int)) (.tup []) = some (.bl (!decide (zs = []))) := by rw [v_fNe, eqB_tup_nil (ints_pl zs 1) (by decide)]; simp
    have m2 : (m : Int) < 2 ^ 63 := by omega
    have hsz : ys.length ≤ 1000000 := by omega
    have uniq : ∀ {o' zs' b'}, ys[c % ys.length]? = some (kd o' zs' b') → o' = o ∧ zs'.map PV.int = zs.map PV.int ∧ zs' = zs ∧ b' = b := fun {o' zs' b'} h => by
      rw [← em, hyc] at h
      simp at h
      obtain ⟨h1, h2, h3⟩ := h
      have h4 : zs = zs' := List.map_inj_right (fun x y e => by cases e; rfl) |>.mp h2
      exact ⟨h1.symm, h2.symm, h4.symm, h3.symm⟩
    simp [t_law_118, t_law_120, t_law_121, e0, hn, S.vy, vMod p1, vDiv p1 p2, i1, i2, i3, hat]
    by_cases d5 : D = 5 ∧ b = false ∧ zs ≠ []
    · obtain ⟨d5, rfl, hz0⟩ := d5
      have zpos : 0 < zs.length := List.length_pos_iff.mpr hz0
      obtain ⟨u, eu⟩ : ∃ u, u = q / 6 % zs.length := ⟨_, rfl⟩
      obtain ⟨x, ex⟩ : ∃ u, u = q / 6 / zs.length % 255 := ⟨_, rfl⟩
      have hu : u < zs.length := by rw [eu]; exact Nat.mod_lt _ zpos
      obtain ⟨a, ha⟩ : ∃ a, zs[u]? = some a := ⟨_, List.getElem?_eq_getElem hu⟩
      have j1 : (q : Int) / 6 % (zs.length : Int) = (u : Int) := by rw [eu]; rfl
      have j2 : (q : Int) / 6 / (zs.length : Int) % 255 = (x : Int) := by rw [ex]; rfl
      have q1 : (0 : Int) < (zs.length : Int) := by omega
      have q2 : ((zs.length : Int)) < 2 ^ 64 := by omega
      have ix : ixN ys.length (m : Int) = some m := by
        have : (m : Int) < (ys.length : Int) := by omega
        simp [ixN, this]
      simp [t_law_122, d5, e1, hz0, j1, j2, vMod q1, vDiv q1 q2]
      refine bent2 hz ha ?_
      have hw2 : Way (ys.set m (kd o (bentP zs a u (1 + x)) true)) := ⟨fun y hy => by
        rcases List.mem_or_eq_of_mem_set hy with h | h
        · exact S.way.all y h
        · exact ⟨_, _, _, h, ho, by rw [bentP_len hu]; exact hz⟩, by simp; omega⟩
      have S2 := S.setVW hw2
      have l2 : insR (s.set v (.lst (ys.set m (kd o (bentP zs a u (1 + x)) true)))) 0 l = some (lkF room up w lost arr) := by rw [insR_ne S.vl]; exact S.lk
      have w2 : celR (s.set v (.lst (ys.set m (kd o (bentP zs a u (1 + x)) true)))) w = some ys := by rw [celR_ne S.wv.symm]; exact S.wy
      have nn : ∀ s, fNe s .non .non = some (.bl false) := fun s => rfl
      simp [S.vy, ix, t_law_130, l2]
      refine act_ab l2 w2 S.way (fun h => absurd h hn) (fun o' zs' a' h g1 g2 g3 => ?_) (fun o' zs' b' h g1 g2 => ?_) (fun o' zs' b' h g1 => ?_) (fun o' zs' b' h g1 g2 g3 => ?_)
      · obtain ⟨rfl, _, rfl, _⟩ := uniq h
        rw [← eq, ← eu] at g3
        rw [ha] at g3
        cases g3
        rw [← em, ← eq, ← eu, ← ex]
        simp [nn]
        exact chk S2 _ _ _ _ _ _ _ _ _ _ _ _ _ _ fun _ _ h => h
      · rw [← eq, ← eD] at g2; omega
      · rw [← eq, ← eD] at g1; omega
      · obtain ⟨_, _, rfl, rfl⟩ := uniq h
        exact absurd ⟨by rw [← eq, ← eD]; exact d5, rfl, hz0⟩ g1
    · have nn : ∀ s, fNe s .non .non = some (.bl false) := fun s => rfl
      have pt : Pl 2 (.tup [.str o, .tup (zs.map .int)]) := .tup 1 _ fun x hx => by
        simp at hx
        rcases hx with rfl | rfl
        · exact .str _ _ (pl_ab ho)
        · exact .tup 0 _ (ints_pl zs 0)
      have tt : ∀ s, fNe s (.tup [.str o, .tup (zs.map .int)]) (.tup [.str o, .tup (zs.map .int)]) = some (.bl false) := fun s => by rw [v_fNe, eqB_pl pt (by decide)]; rfl
      have hEr : Way (ys.eraseIdx m) := S.way.sub (fun y hy => List.mem_of_mem_eraseIdx hy) (List.length_eraseIdx_le ys m)
      have hlE : (ys.eraseIdx m).length < 200 := by
        have := List.length_eraseIdx_of_lt hm
        omega
      have pop : mPopAt s (.ref v) [.int (m : Int)] = some (kd o zs b, s.set v (.lst (ys.eraseIdx m))) := v_popAt S.vy hyc m2
      have l2 : ∀ zs : List PV, insR (s.set v (.lst zs)) 0 l = some (lkF room up w lost arr) := fun zs => by rw [insR_ne S.vl]; exact S.lk
      have w2 : ∀ zs : List PV, celR (s.set v (.lst zs)) w = some ys := fun zs => by rw [celR_ne S.wv.symm]; exact S.wy
      by_cases d4 : D = 4
      · have hA : Way (ys.eraseIdx m ++ [kd o zs b]) := hEr.app hlE ho hz
        have va := celR_set v (ys ++ [kd o zs b]) ys S.vy
        have ya : (ys ++ [kd o zs b])[m]? = some (kd o zs b) := by rw [List.getElem?_append_left hm]; exact hyc
        have pop2 : mPopAt (s.set v (.lst (ys ++ [kd o zs b]))) (.ref v) [.int (m : Int)] = some (kd o zs b, s.set v (.lst (ys.eraseIdx m ++ [kd o zs b]))) := by
          rw [v_popAt va ya m2, List.set_set, List.eraseIdx_append_of_lt_length hm]
        simp [t_law_122, d4, S.vy, hsz, t_law_127, t_law_128, t_law_129, t_law_130, va, pop2, l2]
        refine act_ab (l2 _) (w2 _) S.way (fun h => absurd h hn) (fun o' zs' a' h g1 g2 g3 => ?_) (fun o' zs' b' h g1 g2 => ?_) (fun o' zs' b' h g1 => ?_) (fun o' zs' b' h g1 g2 g3 => ?_)
        · rw [← eq, ← eD] at g1; omega
        · obtain ⟨rfl, _, rfl, rfl⟩ := uniq h
          rw [← em]
          simp [tt]
          exact chk ((S.setVW hA).setL _ _ _) _ _ _ _ _ _ _ _ _ _ _ _ _ _ fun _ _ h => h
        · rw [← eq, ← eD] at g1; omega
        · rw [← eq, ← eD] at g2; omega
      · have rest : (t_law_127 [some sc, some (.ref d), some (.ref l), some (.ref v), some (.int lost), some (.int arr), some (.bl up), o7, o8, o9, some (.tup (zs.map .int)), o11, some (.int c), some .non, some (.int m), some (.int q), some (.str o), some (.bl b), some (.int D), o19, o20] s).sat (fun r s => (t_law_130 r s).sat (fun r s => (t_law_141 r s).sat (InvI sc d) R) R) R := by
          by_cases d3 : D = 3
          · simp [d3, S.vy, t_law_127, t_law_128, t_law_129, t_law_130, pop, l2]
            refine act_ab (l2 _) (w2 _) S.way (fun h => absurd h hn) (fun o' zs' a' h g1 g2 g3 => ?_) (fun o' zs' b' h g1 g2 => ?_) (fun o' zs' b' h g1 => ?_) (fun o' zs' b' h g1 g2 g3 => ?_)
            · rw [← eq, ← eD] at g1; omega
            · rw [← eq, ← eD] at g2; omega
            · rw [← em]
              simp [nn]
              exact chk ((S.setVW hEr).setL _ _ _) _ _ _ _ _ _ _ _ _ _ _ _ _ _ fun _ _ h => h
            · rw [← eq, ← eD] at g3; omega
          · have n3 : ¬ (D : Int) = 3 := by omega
            simp [n3, S.vy, t_law_127, t_law_128, t_law_129, t_law_130, pop, l2]
            refine act_ab (l2 _) (w2 _) S.way (fun h => absurd h hn) (fun o' zs' a' h g1 g2 g3 => ?_) (fun o' zs' b' h g1 g2 => ?_) (fun o' zs' b' h g1 => ?_) (fun o' zs' b' h g1 g2 g3 => ?_)
            · obtain ⟨_, _, rfl, rfl⟩ := uniq h
              exact absurd ⟨by rw [eD, eq]; exact g1, rfl, g2⟩ d5
            · rw [← eq, ← eD] at g2; omega
            · rw [← eq, ← eD] at g1; omega
            · obtain ⟨rfl, _, rfl, rfl⟩ := uniq h
              rw [← em]
              simp [tt]
              exact chk ((S.setVW hEr).setL _ _ _) _ _ _ _ _ _ _ _ _ _ _ _ _ _ fun _ _ h => h
        have n4 : ¬ (D : Int) = 4 := by omega
        by_cases d : D = 5
        · cases b with
          | true => simp [t_law_122, d]; simpa [d] using rest
          | false =>
            by_cases hz0 : zs = []
            · subst hz0
              have e2 : fNe s (.tup []) (.tup []) = some (.bl false) := by simpa using e1
              simp [t_law_122, d, e2]; simpa [d] using rest
            · exact absurd ⟨d, rfl, hz0⟩ d5
        · have nd : ¬ (D : Int) = 5 := by omega
          simp [t_law_122, nd, n4]; exact rest
theorem brC (S : Stt s d l w v room ys lost arr up) :
    (t_law_134 [some sc, some (.ref d), some (.ref l), some (.ref v), some (.int lost), some (.int arr), some (.bl up), o7, o8, o9, o10, o11, o12, some .non, o14, o15, o16, o17, o18, o19, o20] s).sat (fun r s => (t_law_141 r s).sat (InvI sc d) R) R ∨ ys ≠ [] := by
  by_cases hn : ys = []
  · refine .inl ?_
    have nn : ∀ s, fNe s .non .non = some (.bl false) := fun s => rfl
    have is : ∀ s, fIsNotC s .non .non = some (.bl false) := fun s => rfl
    simp [t_law_134, t_law_135, is, S.lk]
    refine next_ab S.lk S.wy S.way (fun _ => ?_) fun o zs b t h => ?_
    · simp [nn]
      exact chk S _ _ _ _ _ _ _ _ _ _ _ _ _ _ fun _ _ h => h
    · rw [hn] at h; cases h
  · exact .inr hn
theorem brC2 (S : Stt s d l w v room ys lost arr up) {o : Str} {zs : List Int} {b : Bool} {t : List PV} (h : ys = kd o zs b :: t) :
    (t_law_134 [some sc, some (.ref d), some (.ref l), some (.ref v), some (.int lost), some (.int arr), some (.bl up), o7, o8, o9, o10, o11, o12, some (.tup [.str o, .tup (zs.map .int)]), o14, o15, o16, o17, o18, o19, o20] (s.set v (.lst t))).sat (fun r s => (t_law_141 r s).sat (InvI sc d) R) R := by
  have is : ∀ s, fIsNotC s (.tup [.str o, .tup (zs.map .int)]) .non = some (.bl true) := fun s => rfl
  obtain ⟨o1, zs1, b1, q, ho, hz⟩ := S.way.all _ (by rw [h]; exact List.mem_cons_self ..)
  have ho2 : o = "a" ∨ o = "b" := by
    simp at q
    rw [q.1]; exact ho
  have pt : Pl 2 (.tup [.str o, .tup (zs.map .int)]) := .tup 1 _ fun x hx => by
    simp at hx
    rcases hx with rfl | rfl
    · exact .str _ _ (pl_ab ho2)
    · exact .tup 0 _ (ints_pl zs 0)
  have tt : ∀ s, fNe s (.tup [.str o, .tup (zs.map .int)]) (.tup [.str o, .tup (zs.map .int)]) = some (.bl false) := fun s => by rw [v_fNe, eqB_pl pt (by decide)]; rfl
  have hE : Way t := S.way.sub (fun y hy => by rw [h]; exact List.mem_cons_of_mem _ hy) (by rw [h]; simp)
  have l2 : insR (s.set v (.lst t)) 0 l = some (lkF room up w lost arr) := by rw [insR_ne S.vl]; exact S.lk
  have w2 : celR (s.set v (.lst t)) w = some ys := by rw [celR_ne S.wv.symm]; exact S.wy
  simp [t_law_134, t_law_135, is, l2]
  refine next_ab l2 w2 S.way (fun hn => by rw [hn] at h; cases h) fun o' zs' b' t' h' => ?_
  rw [h] at h'
  simp at h'
  obtain ⟨⟨rfl, h2, rfl⟩, rfl⟩ := h'
  rw [← h2]
  simp [tt]
  exact chk ((S.setVW hE).setL _ _ _) _ _ _ _ _ _ _ _ _ _ _ _ _ _ fun _ _ h => h
end
theorem ab_ix (st : Sto) {y : Int} (h0 : 0 ≤ y) (h2 : y < 2) : ∃ e : Str, fIx st (.str "ab") (.int y) = some (.str e) ∧ (e = "a" ∨ e = "b") := by
  have : y = 0 ∨ y = 1 := by omega
  rcases this with rfl | rfl
  · exact ⟨"a", by rfl, .inl rfl⟩
  · exact ⟨"b", by rfl, .inr rfl⟩
theorem bytes3 {s : Sto} {d l w v : Nat} {room : Int} {ys : List PV} {lost arr : Int} {up : Bool} (S : Stt s d l w v room ys lost arr up) {n : Nat} (hn : n ≤ 9) {r : Rho} (hr : r[1]? = some (some (.ref d))) {P : List PV → Sto → Prop}
    (k : ∀ (zs : List Int) (s : Sto), zs.length = n → Stt s d l w v room ys lost arr up → P (zs.map .int) s) :
    (cLcGo (nfName 11) cYes (cBin fIx (cLst (cCons (cK (PV.int 126)) (cCons (cK (PV.int 125)) (cCons (cCall 2 [] (c_law_roll 4) (cCons (cVar 1) (cCons (cK (PV.int 256)) cNil))) cNil)))) (cCall 2 [] (c_law_roll 4) (cCons (cVar 1) (cCons (cK (PV.int 3)) cNil)))) r (intsR 0 n) [] s).sat P := by
  refine lc_inv (I := fun k acc s => ∃ zs : List Int, acc = zs.map .int ∧ zs.length = k ∧ Stt s d l w v room ys lost arr up) _ 0 ⟨[], rfl, rfl, S⟩ ?_ ?_
  · rintro i x acc s hx ⟨zs, rfl, hl, S⟩
    have hi := (List.getElem?_eq_some_iff.mp hx).1
    rw [ints_len] at hi
    refine ⟨_, rfl, ?_⟩
    have hr1 : (r.set 11 (some x))[1]? = some (some (.ref d)) := by rw [List.getElem?_set_ne (by decide)]; exact hr
    simp [hr1]
    refine S.rl (by decide) (by decide) fun u s1 _ _ S1 => ?_
    refine S1.rl (by decide) (by decide) fun j s2 j0 j3 S2 => ?_
    have hz : zs.length ≤ 1000000 := by omega
    have : j = 0 ∨ j = 1 ∨ j = 2 := by omega
    rcases this with rfl | rfl | rfl
    · simp [hz]; exact ⟨zs ++ [126], by simp, by simp; omega, S2⟩
    · simp [hz]; exact ⟨zs ++ [125], by simp, by simp; omega, S2⟩
    · simp [hz]; exact ⟨zs ++ [u], by simp, by simp; omega, S2⟩
  · rintro acc s ⟨zs, rfl, hl, S⟩
    rw [ints_len] at hl
    exact k zs s (by omega) S
theorem bytes1 {s : Sto} {d l w v : Nat} {room : Int} {ys : List PV} {lost arr : Int} {up : Bool} (S : Stt s d l w v room ys lost arr up) {n : Nat} (hn : n ≤ 9) {r : Rho} (hr : r[1]? = some (some (.ref d))) {P : List PV → Sto → Prop}
    (k : ∀ (zs : List Int) (s : Sto), zs.length = n → Stt s d l w v room ys lost arr up → P (zs.map .int) s) :
    (cLcGo (nfName 11) cYes (cCall 2 [] (c_law_roll 4) (cCons (cVar 1) (cCons (cK (PV.int 256)) cNil))) r (intsR 0 n) [] s).sat P := by
  refine lc_inv (I := fun k acc s => ∃ zs : List Int, acc = zs.map .int ∧ zs.length = k ∧ Stt s d l w v room ys lost arr up) _ 0 ⟨[], rfl, rfl, S⟩ ?_ ?_
  · rintro i x acc s hx ⟨zs, rfl, hl, S⟩
    have hi := (List.getElem?_eq_some_iff.mp hx).1
    rw [ints_len] at hi
    refine ⟨_, rfl, ?_⟩
    have hr1 : (r.set 11 (some x))[1]? = some (some (.ref d)) := by rw [List.getElem?_set_ne (by decide)]; exact hr
    have hz : zs.length ≤ 1000000 := by omega
    simp [hr1]
    refine S.rl (by decide) (by decide) fun u s1 _ _ S1 => ?_
    exact ⟨by simp [hz], zs ++ [u], by simp, by simp; omega, S1⟩
  · rintro acc s ⟨zs, rfl, hl, S⟩
    rw [ints_len] at hl
    exact k zs s (by omega) S
theorem other_c {st : Sto} {l w : Nat} {room lost arr : Int} {up : Bool} (h : insR st 0 l = some (lkF room up w lost arr)) : c_Link_other [.ref l, .str "c"] st = .exc 1 st := by
  have n1 : ¬ ("a" : Str) = "c" := by decide +kernel
  have n2 : ¬ ("b" : Str) = "c" := by decide +kernel
  simp [c_Link_other, mkF, cSeq, cIfS, cTest, cBin, cTup, cCons, cNil, cVar, cUn, h, cRaise, n1, n2]
theorem small62_of {i : Int} (h0 : 0 ≤ i) (h1 : i ≤ 1000000) : small62 i := ⟨by omega, by omega⟩
theorem body {sc : PV} {s : Sto} {d : Nat} {r : Rho} (I : InvI sc d r s) (x : PV) {R : PV → Sto → Prop} : (gName 7 x r s).sat fun r1 s1 => (b_law_107 r1 s1).sat (InvI sc d) R := by
  obtain ⟨l, w, v, room, ys, lost, arr, up, o7, o8, o9, o10, o11, o12, o13, o14, o15, o16, o17, o18, o19, o20, rfl, S⟩ := I
  simp [b_law_107]
  refine S.rl (by decide) (by decide) fun sort s1 h0 h9 S1 => ?_
  have e0 : fEq s1 (.ref v) (.lv []) = some (.bl (decide (ys = []))) := by rw [v_fEq, eqB_cell_nil S1.vy S1.way.pl (by decide)]; rfl
  simp [t_law_109]
  split
  · refine S1.rl (by decide) (by decide) fun y s2 y0 y2 S2 => ?_
    obtain ⟨e, he, hab⟩ := ab_ix s2 y0 y2
    simp [he]
    refine S2.rl (by decide) (by decide) fun n s3 n0 n9 S3 => ?_
    simp [small62_of n0 (show n ≤ 1000000 by omega)]
    refine bytes3 S3 (by omega) rfl fun zs s4 hl S4 => ?_
    exact brA S4 hab (by omega)
  · split
    · refine S1.rl (by decide) (by decide) fun c s2 c0 c2 S2 => ?_
      obtain ⟨c, rfl⟩ := Int.eq_ofNat_of_zero_le c0
      exact brB S2 c
    · split
      · by_cases hn : ys = []
        · simp [e0, hn]
          rcases brC S1 with h | h
          · exact h
          · exact absurd hn h
        · cases hy : ys with
          | nil => exact absurd hy hn
          | cons y t =>
            obtain ⟨o, zs, b, rfl, ho, hz⟩ := S1.way.all y (by rw [hy]; exact List.mem_cons_self ..)
            have pop : mPopAt s1 (.ref v) [.int 0] = some (kd o zs b, s1.set v (.lst t)) := v_popAt (j := 0) (by rw [S1.vy, hy]) rfl (by decide)
            have cut : ∀ x y z : PV, cutL [x, y, z] none (some 2) = [x, y] := fun x y z => cutL_take [x, y, z] 2 (by simp)
            simp [e0, hn, S1.vy, pop, cut]
            exact brC2 S1 hy
      · exact brD S1 (!up)
theorem init_ab {st : Sto} {l : Nat} {fs : List (Option PV)} (h : insR st 0 l = some fs) (hf : fs.length = 7) {room : Int} (h0 : ¬ room < 20) {P : PV → Sto → Prop}
    (k : ∀ s' : Sto, s'.length = st.length + 1 → insR s' 0 l = some (lkF room true st.length 0 0) → celR s' st.length = some [] → (∀ i, i ≠ l → i < st.length → s'[i]? = st[i]?) → P .non s') : (c_Link_init [.ref l, .str "a", .str "b", .int room] st).sat P := by
  have hl := insR_lt h
  match fs, hf with
  | [f0, f1, f2, f3, f4, f5, f6], _ =>
  have i1 := insR_set [some (.str "a"), f1, f2, f3, f4, f5, f6] h
  have i2 := insR_set [some (.str "a"), some (.str "b"), f2, f3, f4, f5, f6] h
  have i3 := insR_set [some (.str "a"), some (.str "b"), some (.int room), f3, f4, f5, f6] h
  have i4 := insR_set [some (.str "a"), some (.str "b"), some (.int room), some (.bl true), f4, f5, f6] h
  have i5 := insR_app (c := .lst []) i4
  have i6 := insR_set [some (.str "a"), some (.str "b"), some (.int room), some (.bl true), some (.ref st.length), f5, f6] i5
  have i7 := insR_set [some (.str "a"), some (.str "b"), some (.int room), some (.bl true), some (.ref st.length), some (.int 0), f6] i5
  have i8 := insR_set (lkF room true st.length 0 0) i5
  unfold c_Link_init
  simp only [t_Link_init_16, t_Link_init_17, t_Link_init_18, t_Link_init_19, t_Link_init_20, t_Link_init_21, t_Link_init_22]
  obtain ⟨X, eX⟩ : ∃ X, X = st.set l (.ins 0 [some (.str "a"), some (.str "b"), some (.int room), some (.bl true), f4, f5, f6]) ++ [Cel.lst []] := ⟨_, rfl⟩
  rw [← eX] at i5 i6 i7 i8
  have lX : X.length = st.length + 1 := by rw [eX]; simp
  simp [nab, h0, h, i1, i2, i3, i4, ← eX, i5, i6, i7]
  refine k _ (by simp [lX]) i8 ?_ ?_
  · rw [celR_ne (by omega), eX]
    have := celR_new (st := st.set l (.ins 0 [some (.str "a"), some (.str "b"), some (.int room), some (.bl true), f4, f5, f6])) []
    rwa [List.length_set] at this
  · intro i hi hlt
    rw [List.getElem?_set_ne (Ne.symm hi), eX, List.getElem?_append_left (by simp; exact hlt), List.getElem?_set_ne (Ne.symm hi)]
theorem pers {s : Sto} {d : Nat} {c : Cel} (hd : s[d]? = some c) (hc : Dice c) {sc : PV} (x2 x3 x4 x5 x6 x7 x8 x9 x10 x11 x12 x13 x14 x15 x16 x17 x18 x19 x20 : Option PV) {N : Rho → Sto → Prop} {R : PV → Sto → Prop} (hN : ∀ r s, r.length = 21 → N r s) :
    (b_law_105 [some sc, some (.ref d), x2, x3, x4, x5, x6, x7, x8, x9, x10, x11, x12, x13, x14, x15, x16, x17, x18, x19, x20] s).sat N R := by
  simp [b_law_105]
  refine roll hd hc (by decide) (by decide) fun room c r0 r1 hc => ?_
  simp
  have hdl := (List.getElem?_eq_some_iff.mp hd).1
  have hdl2 : d < (s.set d c).length := by simpa using hdl
  have lk0 := insR_new (st := s.set d c) 0 [none, none, none, none, none, none, none]
  rw [List.length_set] at lk0
  refine init_ab lk0 rfl (by omega) fun s' l1 l2 l3 l4 => ?_
  have ll : (s.set d c ++ [Cel.ins 0 [none, none, none, none, none, none, none]]).length = s.length + 1 := by simp
  rw [ll] at l1 l2 l3 l4
  have hd' : s'[d]? = some c := by rw [l4 d (by omega) (by omega), List.getElem?_append_left hdl2]; exact get_set_self hd
  have S : Stt (s' ++ [Cel.lst []]) d s.length (s.length + 1) s'.length (20 + room) [] 0 0 true := by
    refine ⟨⟨c, ?_, hc⟩, insR_app l2, celR_app l3, celR_new [], by omega, by omega, by omega, ⟨by simp, by simp⟩⟩
    rw [List.getElem?_append_left (by omega)]; exact hd'
  simp [t_law_107]
  refine S.rl (by decide) (by decide) fun n s1 n0 n1 S1 => ?_
  simp [small62_of n0 (show n ≤ 1000000 by omega)]
  refine for_inv (fun _ => InvI _ d) _ 0 ⟨_, _, _, _, _, _, _, _, _, _, _, _, _, _, _, _, _, _, _, _, _, _, rfl, S1⟩ (fun i x r s _ I => body I x) ?_
  rintro r s2 ⟨l, w, v, room, ys, lost, arr, up, o7, o8, o9, o10, o11, o12, o13, o14, o15, o16, o17, o18, o19, o20, rfl, S⟩
  simp [t_law_143]
  refine S.rl (by decide) (by decide) fun n s3 n0 n1 S3 => ?_
  simp [small62_of (show 0 ≤ 1 + n by omega) (show 1 + n ≤ 1000000 by omega)]
  refine bytes1 S3 (by omega) rfl fun zs s4 hz S4 => ?_
  have zpos : 0 < (zs.length : Int) := by omega
  simp [t_law_144]
  refine S4.rl zpos (by omega) fun p s5 p0 p1 S5 => ?_
  refine S5.rl (by decide) (by decide) fun ch s6 _ _ S6 => ?_
  obtain ⟨p, rfl⟩ := Int.eq_ofNat_of_zero_le p0
  obtain ⟨a, ha⟩ : ∃ a, zs[p]? = some a := ⟨_, List.getElem?_eq_getElem (by omega)⟩
  have hz9 : zs.length ≤ 9 := by omega
  simp [t_law_145]
  refine bent1 hz9 ha ?_
  refine bent2 hz9 ha ?_
  have e1 : fNe s6 (.tup ((bentP zs a p (1 + ch)).map .int)) (.tup ((bentP zs a p (1 + ch)).map .int)) = some (.bl false) := by
    rw [v_fNe, eqB_pl (.tup 1 _ (ints_pl _ 1)) (by decide)]; rfl
  simp [e1, S6.lk]
  refine other_ab S6.lk (.inl rfl) ?_
  have hT : ∀ r : Rho, r[2]? = some (some (.ref l)) → (cMeth 0 2 [] c_Link_other (cVar 2) (cCons (cK (PV.str "c")) cNil)) r s6 = .exc 1 s6 := fun r hr => by
    simp [cMeth, cVar, cCons, cNil, cK, hr, S6.lk, other_c S6.lk]
  rw [if_pos rfl]
  simp
  rw [told_exc (hT _ rfl) rfl]
  simp
  exact hN _ _ rfl
theorem dice1 {st : Sto} {z : Int} {P : PV → Sto → Prop} (k : ∀ c, Dice c → P (.ref st.length) (st ++ [c])) : (c_law_dice [.int z] st).sat P := by
  unfold c_law_dice
  simp [t_law_dice_77]
  split
  · split
    · exact k _ ⟨_, _, _, rfl⟩
    · exact k _ ⟨_, _, _, rfl⟩
  · exact k _ ⟨_, _, _, rfl⟩
theorem rounds {st : Sto} {ns : List Int} {n : Nat} (hn : 0 < n) (hn2 : n ≤ 1000) {P : PV → Sto → Prop} (k : ∀ (ds : List Nat) (s : Sto), ds.length = max 1 (min n ns.length) → (∀ d ∈ ds, ∃ c, s[d]? = some c ∧ Dice c) → ds.Nodup → P (.lv (ds.map .ref)) s) : (c_law_rounds [.fz (ns.map .int), .int n] st).sat P := by
  have cut : cutL (ns.map PV.int) none (some (n : Int)) = (ns.take n).map .int := by
    by_cases h : n ≤ (ns.map PV.int).length
    · rw [cutL_take _ _ h, List.map_take]
    · have h1 : ¬ (n : Int) < 0 := by omega
      have h2 : min n (ns.map PV.int).length = (ns.map PV.int).length := by omega
      have h3 : ns.length ≤ n := by simp at h; omega
      simp [cutL, HT.sIx, h1, List.take_of_length_le h3]
      exact List.take_of_length_le (by simp; omega)
  have fsl : fSl st (.fz (ns.map .int)) none (some (n : Int)) = some (.lv ((ns.take n).map .int)) := by show some (PV.lv _) = _; rw [cut]
  have main : ∀ zs : List Int, zs.length = max 1 (min n ns.length) → ∀ r : Rho, (cLcGo (nfName 3) cYes (cCall 1 [] c_law_dice (cCons (cVar 3) cNil)) [some (.fz (ns.map .int)), some (.int n), some (.lv (zs.map .int)), none] (zs.map .int) [] st).sat fun ys s2 => P (.lv ys) s2 := fun zs hz r => by
    refine lc_inv (I := fun k acc s => ∃ ds : List Nat, acc = ds.map .ref ∧ ds.length = k ∧ (∀ d ∈ ds, ∃ c, s[d]? = some c ∧ Dice c) ∧ ds.Nodup) _ 0 ⟨[], rfl, rfl, by simp, by simp⟩ ?_ ?_
    · rintro i x acc s hx ⟨ds, rfl, hl, hd, nd⟩
      have hi := (List.getElem?_eq_some_iff.mp hx).1
      obtain ⟨z, _, rfl⟩ := List.mem_map.mp (List.mem_of_getElem? hx)
      have hsz : ds.length ≤ 1000000 := by simp at hi; omega
      refine ⟨_, rfl, ?_⟩
      simp
      refine dice1 fun c hc => ⟨by simp [hsz], ds ++ [s.length], by simp, by simp; omega, fun d hd2 => ?_, ?_⟩
      · rcases List.mem_append.mp hd2 with q | q
        · obtain ⟨c', h1, h2⟩ := hd d q
          exact ⟨c', by rw [List.getElem?_append_left (List.getElem?_eq_some_iff.mp h1).1]; exact h1, h2⟩
        · rw [List.mem_singleton.mp q]
          exact ⟨c, by simp, hc⟩
      · rw [List.nodup_append]
        refine ⟨nd, by simp, fun a ha b hb z => ?_⟩
        obtain ⟨c', h1, h2⟩ := hd a ha
        have := (List.getElem?_eq_some_iff.mp h1).1
        rw [List.mem_singleton.mp hb] at z
        omega
    · rintro acc s ⟨ds, rfl, hl, hd, nd⟩
      exact k ds s (by simp at hl; omega) hd nd
  unfold c_law_rounds
  obtain ⟨tk, etk⟩ : ∃ tk, tk = ns.take n := ⟨_, rfl⟩
  have ltk : tk.length = min n ns.length := by rw [etk]; simp
  rw [← etk] at fsl
  have eq0 : fEq st (.lv (tk.map .int)) (.lv []) = some (.bl (decide (tk = []))) := by rw [v_fEq, eqB_lv_nil (ints_pl tk 0) (by decide)]; simp
  by_cases h0 : tk = []
  · subst h0
    have eq1 : fEq st (.lv []) (.lv []) = some (.bl true) := by simpa using eq0
    simp [t_law_rounds_91, t_law_rounds_93, fsl, eq1, wipeR]
    have := main [0] (by simp at ltk ⊢; omega) []
    simpa using this
  · simp [t_law_rounds_91, t_law_rounds_93, fsl, eq0, h0, wipeR]
    have : 0 < tk.length := List.length_pos_iff.mpr h0
    exact main tk (by omega) []
/-! the end of the law -/
def InvE (l : Nat) (k : Nat) (r : Rho) (s : Sto) : Prop := ∃ (w : Nat) (ys : List PV) (o0 o1 o3 o4 o5 o6 o7 o8 o9 o10 o11 o12 o13 o14 o15 o16 o17 o18 o19 o20 : Option PV),
  r = [o0, o1, some (.ref l), o3, o4, o5, o6, o7, o8, o9, o10, o11, o12, o13, o14, o15, o16, o17, o18, o19, o20] ∧ insR s 0 l = some (lkF 60 true w ((k - 200 : Nat) : Int) 0) ∧ celR s w = some ys ∧ ys.length = min k 200
theorem init_aa {s : Sto} : c_Link_init [.ref s.length, .str "a", .str "a", .int 60] (s ++ [Cel.ins 0 [none, none, none, none, none, none, none]]) = .exc 1 (s ++ [Cel.ins 0 [none, none, none, none, none, none, none]]) := by
  simp [c_Link_init, mkF, cSeq, cIfS, cTest, cBin, cOr, cVar, cK, cRaise]
theorem init_19 {s : Sto} : c_Link_init [.ref s.length, .str "a", .str "b", .int 19] (s ++ [Cel.ins 0 [none, none, none, none, none, none, none]]) = .exc 1 (s ++ [Cel.ins 0 [none, none, none, none, none, none, none]]) := by
  simp [c_Link_init, mkF, cSeq, cIfS, cTest, cBin, cOr, cVar, cK, cRaise, nab]
theorem tail_ok {r : Rho} {s : Sto} (hr : r.length = 21) : (t_law_148 r s).sat (fun _ _ => False) (fun v _ => v = .bl true) := by
  match r, hr with
  | [o0, o1, o2, o3, o4, o5, o6, o7, o8, o9, o10, o11, o12, o13, o14, o15, o16, o17, o18, o19, o20], _ =>
  simp [t_law_148]
  have lk0 := insR_new (st := s) 0 [none, none, none, none, none, none, none]
  refine init_ab lk0 rfl (by decide) fun s' l1 l2 l3 l4 => ?_
  simp [t_law_149, small62_of (show (0:Int) ≤ 205 by decide) (by decide)]
  refine for_inv (fun k => InvE s.length k) _ 0 ⟨_, [], _, _, _, _, _, _, _, _, _, _, _, _, _, _, _, _, _, _, _, _, rfl, l2, l3, rfl⟩ ?_ ?_
  · rintro i x r1 s1 hx ⟨w, ys, o0, o1, o3, o4, o5, o6, o7, o8, o9, o10, o11, o12, o13, o14, o15, o16, o17, o18, o19, o20, rfl, h1, h2, h3⟩
    rw [Fw.ints_get] at hx
    split at hx
    · cases hx
      simp [b_law_149, h1]
      have cv : PV.tup [PV.int ((i : Int) % 256)] = PV.tup (([(i : Int) % 256] : List Int).map .int) := rfl
      rw [cv]
      refine send_ab h1 h2 (by omega) (.inl rfl) (fun _ hl => ?_) fun hn => ?_
      · refine ⟨w, _, o0, o1, o3, o4, o5, o6, o7, o8, o9, o10, _, o12, o13, o14, o15, o16, o17, o18, o19, o20, rfl, ?_, celR_set _ _ _ h2, ?_⟩
        · rw [insR_ne (cel_ins h2 h1), h1]
          have : (0 + i - 200 : Nat) = i + 1 - 200 := by omega
          rw [this]
        · simp; omega
      · refine ⟨w, ys, o0, o1, o3, o4, o5, o6, o7, o8, o9, o10, _, o12, o13, o14, o15, o16, o17, o18, o19, o20, rfl, ?_, by rw [celR_ne (cel_ins h2 h1).symm]; exact h2, ?_⟩
        · rw [insR_set _ h1]
          have hge : ¬ ys.length < 200 := fun z => hn ⟨rfl, z⟩
          have : ((0 + i - 200 : Nat) : Int) + 1 = ((i + 1 - 200 : Nat) : Int) := by omega
          rw [this]
        · have hge : ¬ ys.length < 200 := fun z => hn ⟨rfl, z⟩
          omega
    · cases hx
  · rintro r1 s1 ⟨w, ys, o0, o1, o3, o4, o5, o6, o7, o8, o9, o10, o11, o12, o13, o14, o15, o16, o17, o18, o19, o20, rfl, h1, h2, h3⟩
    rw [ints_len] at h1 h3
    have h4 : ys.length = 200 := by simpa using h3
    simp at h1
    simp [t_law_151, t_law_153, h1, h2, h4]
    have T1 : ∀ r : Rho, (cMake 0 7 4 [PV.int 60] c_Link_init (cCons (cK (PV.str "a")) (cCons (cK (PV.str "a")) cNil))) r s1 = .exc 1 (s1 ++ [Cel.ins 0 [none, none, none, none, none, none, none]]) := fun r => by
      simp [cMake, cCons, cNil, cK, init_aa]
    have T2 : ∀ (r : Rho) s1, (cMake 0 7 4 [] c_Link_init (cCons (cK (PV.str "a")) (cCons (cK (PV.str "b")) (cCons (cK (PV.int 19)) cNil)))) r s1 = .exc 1 (s1 ++ [Cel.ins 0 [none, none, none, none, none, none, none]]) := fun r s1 => by
      simp [cMake, cCons, cNil, cK, init_19]
    rw [told_exc (T1 _) rfl]
    simp
    rw [told_exc (T2 _ _) rfl]
    simp
theorem law_sat (ns : List Int) : (c_law [.fz (ns.map .int)] []).sat fun v _ => v = .bl true := by
  unfold c_law
  simp
  refine rounds (n := 1) (by decide) (by decide) fun ds s hl hd nd => ?_
  simp
  match ds, hl, hd with
  | [], hl, _ => simp at hl; omega
  | [d], hl, hd =>
    obtain ⟨c, hc, hD⟩ := hd d (by simp)
    refine for_one ?_
    simp
    exact pers hc hD _ _ _ _ _ _ _ _ _ _ _ _ _ _ _ _ _ _ _ fun r s hr => (tail_ok hr).imp (fun _ _ h => h.elim) fun _ _ h => h
  | _ :: _ :: _, hl, _ => simp at hl; omega
theorem law_true (ns : List Int) (hl : ns.length ≤ 63) (hb : ∀ z ∈ ns, Builtin.Int.intBits z ≤ 1048576) : ∃ st, c_law [.fz (ns.map .int)] [] = .ok (.bl true) st := (law_sat ns).is
end G04
set_option Elab.async false
set_option linter.all false
set_option maxRecDepth 100000
set_option maxHeartbeats 4000000
namespace Fw
open PySem PySem.Spec PyProof.Rows L2 LamX
theorem rvs_ints {g : Gd} {m : List Addr} {H : Hp} : ∀ ns : List Int, RVs g m H (ns.map PV.int) (ns.map V.int)
  | [] => .nil
  | _ :: ns => .cons (.int _) (rvs_ints ns)
theorem sp_end {K : PySem.W.Frag} {t : Tb} {cf : CF} {H : Hp} {a : Addr} {ns : List Int} (hT : LamX.Tabs t.T H) (hS : SqL K H a (ns.map V.int)) (h : ∃ st, cf [.fz (ns.map .int)] [] = .ok (.bl true) st) :
    spF K t 1 cf [.ref a] H (fun v _ => v = .bl true) (fun _ _ _ => False) := by
  obtain ⟨st, e⟩ := h
  have hf : FzAt ⟨K, t, []⟩ [] H a (ns.map V.int) := by
    rcases hS with q | q
    · exact .inl ⟨⟨by simp, by simp⟩, q⟩
    · exact .inr q
  refine ⟨rfl, [], [], [], _, ⟨rfl, List.nodup_nil, fun i a c hi _ => by simp at hi, hT, fun a ha => by simp at ha⟩, .cons (.fz hf (rvs_ints ns)) .nil, ?_⟩
  rw [e]
  intro m' H' v _ _ q
  cases q
  rfl
theorem codeHd_mk {K : PySem.W.Frag} {h : Heap} {c P : Addr} {dd : Option Addr} {vs : Array Value} {sl : Array (Option Value)} {file : Str} {tf tg tt : Tok} {flags text : Int} {inF : Bool} (X : K.In h) (l : K.lookup c = some ⟨.type "code", dd, .fields vs, sl⟩) (q : vs[11]? = some (.ref P))
    (f18 : vs.getD 18 .none = .str file tf) (f7 : vs.getD 7 .none = .int flags tg) (f9 : vs.getD 9 .none = .bool inF) (f10 : vs.getD 10 .none = .int text tt) (ne : c ≠ P) : PySem.W.CodeHd h c P :=
  ⟨_, vs, file, tf, flags, tg, inF, text, tt, X _ _ l, rfl, rfl, q, by rw [Array.getD_eq_getD_getElem?, q]; rfl, f18, f7, f9, f10, ne⟩
theorem exm_mk {K : PySem.W.Frag} {S C : Addr} {b : Bool} (h1 : PySem.W.subIn K (.ref S) (.type "BaseException") = some true) (h2 : PySem.W.isClsIn K S = true) (h3 : PySem.W.typeIn K (.ref S) = some (.type "type")) (h4 : PySem.W.subIn K (.ref C) (.ref S) = some b) :
    PySem.W.exmOne K (.ref C) (.ref S) = some b := by
  have e1 : (PySem.W.subIn K (.ref S) (.type "BaseException") == some true) = true := by rw [h1] <;> rfl
  have e2 : ((PySem.W.clsIn K S).isSome && PySem.W.typeIn K (.ref S) == some (.type "type")) = true := by
    have h2' : (PySem.W.clsIn K S).isSome = true := h2
    rw [h2', h3] <;> rfl
  show (if (PySem.W.subIn K (.ref S) (.type "BaseException") == some true) = true then (if ((PySem.W.clsIn K S).isSome && PySem.W.typeIn K (.ref S) == some (.type "type")) = true then PySem.W.subIn K (.ref C) (.ref S) else none) else none) = some b
  rw [if_pos e1, if_pos e2]
  exact h4
theorem funD_mk {K : PySem.W.Frag} {x qual : Str} {params : Arguments} {body : List Stmt} {scope : Scope} {dvs : List V} {f T : Addr} {oc : Value} {od an dT : Option Addr} {osl slT : Array (Option Value)} {kV doc pm cdv ct clT : Value} {its : List Value} {m : Nat}
    (l : K.lookup f = some ⟨oc, od, .func (PySem.W.fnOf x qual params body scope (.ref T) kV doc pm an cdv ct), osl⟩) (c : PySem.W.codeIn K cdv qual = true) (k : PySem.W.keepIn K (.ref f) = true)
    (lT : K.lookup T = some ⟨clT, dT, .seq its.toArray m, slT⟩) (hv : Vals dvs its) (ne : dvs ≠ []) :
    FunD K x qual params body scope dvs [] f (PySem.W.fnOf x qual params body scope (.ref T) kV doc pm an cdv ct) :=
  ⟨⟨oc, od, _, kV, doc, pm, an, cdv, ct, osl, rfl, l, c, .inr ⟨ne, T, _, its, m, rfl, lT, rfl, hv⟩, .inl rfl⟩, k⟩
theorem bindsAll {K : PySem.W.Frag} {x qual : Str} {params : Arguments} {body : List Stmt} {scope : Scope} {dvs : List V} {f : Addr} {fd : FuncData} {ps : List Str} (F : FunD K x qual params body scope dvs [] f fd) (hd : dvs ≠ [])
    (h : ∀ (T : Addr) (kV doc pm : Value) (an : Option Addr) (cdv ct : Value) (us its : List Value), us.length = ps.length → its.length = dvs.length →
      ∃ k, bindArgs (PySem.W.fnOf x qual params body scope (.ref T) kV doc pm an cdv ct) ⟨us, []⟩ = seqItems? (.ref T) >>= k ∧ k (some its.toArray) = pure (ps.zip us)) : L2.Binds K fd ps [] := by
  obtain ⟨ds, h1, h2⟩ := F.binds1 (ps := ps) ps.length dvs.length hd (by simp) (fun T kV doc pm an cdv ct us its e1 e2 => by
    obtain ⟨k, a, b⟩ := h T kV doc pm an cdv ct us its e1 e2
    exact ⟨k, a, by rw [b, ← e2, List.drop_length, List.append_nil]⟩)
  rw [List.drop_length] at h1
  cases h1
  exact h2
/-- the law's own table -/
theorem own_tab {K : PySem.W.Frag} {h : Heap} {fa c P : Addr} {o : Obj} {fd : FuncData} {e : Value} {dd : Option Addr} {vs : Array Value} {sl : Array (Option Value)} (own : OwnTab K fa h) (l : K.lookup fa = some o) (od : o.data = .func fd) (hc : fd.code = .ref c) (lc : K.lookup c = some ⟨e, dd, .fields vs, sl⟩) (q : vs[11]? = some (.ref P)) :
    h.get? P = some { cls := .none, data := .fields #[] } := own c P o fd e dd vs sl l od hc lc q
end Fw
set_option Elab.async false
set_option linter.all false
set_option maxRecDepth 100000
set_option maxHeartbeats 4000000
namespace G04
open PySem PySem.Spec PyProof.Rows L2 Fw
theorem all_mk {l : PySem.W.OpenLaw} {w : World} {K : PySem.W.Frag} {h : Heap} {mg : Str → Option Value} {fa : Addr} (X : K.In h) (G : h.Ns mainGlobals mg) (hfa : mg "law" = some (.ref fa)) (own : LamX.OwnTab K fa h)
    {cL pL : Addr} {dcL : Option Addr} {vsL : Array Value} {slL : Array (Option Value)} {fileL : Str} {tfL tgL ttL : Tok} {flL txL : Int} {inL : Bool}
    {f_law_dice : Addr} {oc_law_dice kV_law_dice doc_law_dice pm_law_dice cd_law_dice ct_law_dice : Value} {od_law_dice an_law_dice : Option Addr} {sl_law_dice : Array (Option Value)}
    {f_law_rounds : Addr} {oc_law_rounds kV_law_rounds doc_law_rounds pm_law_rounds cd_law_rounds ct_law_rounds : Value} {od_law_rounds an_law_rounds : Option Addr} {sl_law_rounds : Array (Option Value)}
    {f_Link_init : Addr} {oc_Link_init kV_Link_init doc_Link_init pm_Link_init cd_Link_init ct_Link_init : Value} {od_Link_init an_Link_init : Option Addr} {sl_Link_init : Array (Option Value)}
    {k0_Link_init : Tok}
    {T_Link_init : Addr} {tc_Link_init : Value} {td_Link_init : Option Addr} {ts_Link_init : Array (Option Value)} {tm_Link_init : Nat}
    {f_Link_other : Addr} {oc_Link_other kV_Link_other doc_Link_other pm_Link_other cd_Link_other ct_Link_other : Value} {od_Link_other an_Link_other : Option Addr} {sl_Link_other : Array (Option Value)}
    {f_Link_send : Addr} {oc_Link_send kV_Link_send doc_Link_send pm_Link_send cd_Link_send ct_Link_send : Value} {od_Link_send an_Link_send : Option Addr} {sl_Link_send : Array (Option Value)}
    {f_law_roll : Addr} {oc_law_roll kV_law_roll doc_law_roll pm_law_roll cd_law_roll ct_law_roll : Value} {od_law_roll an_law_roll : Option Addr} {sl_law_roll : Array (Option Value)}
    {f_bent_bytes : Addr} {oc_bent_bytes kV_bent_bytes doc_bent_bytes pm_bent_bytes cd_bent_bytes ct_bent_bytes : Value} {od_bent_bytes an_bent_bytes : Option Addr} {sl_bent_bytes : Array (Option Value)}
    {f_law_bent : Addr} {oc_law_bent kV_law_bent doc_law_bent pm_law_bent cd_law_bent ct_law_bent : Value} {od_law_bent an_law_bent : Option Addr} {sl_law_bent : Array (Option Value)}
    {f_Link_act : Addr} {oc_Link_act kV_Link_act doc_Link_act pm_Link_act cd_Link_act ct_Link_act : Value} {od_Link_act an_Link_act : Option Addr} {sl_Link_act : Array (Option Value)}
    {f_Link_set_up : Addr} {oc_Link_set_up kV_Link_set_up doc_Link_set_up pm_Link_set_up cd_Link_set_up ct_Link_set_up : Value} {od_Link_set_up an_Link_set_up : Option Addr} {sl_Link_set_up : Array (Option Value)}
    {f_Link_next : Addr} {oc_Link_next kV_Link_next doc_Link_next pm_Link_next cd_Link_next ct_Link_next : Value} {od_Link_next an_Link_next : Option Addr} {sl_Link_next : Array (Option Value)}
    {f_law : Addr} {oc_law kV_law doc_law pm_law ct_law : Value} {od_law an_law : Option Addr} {sl_law : Array (Option Value)}
    {f_law_told : Addr} {oc_law_told kV_law_told doc_law_told pm_law_told cd_law_told ct_law_told : Value} {od_law_told an_law_told : Option Addr} {sl_law_told : Array (Option Value)}
    {c_Link : Addr}
    {e_NetError : Addr}
    {e_RouteError : Addr}
    {kg_DEEDS : Tok}
    {kg_ESCAPE : Tok}
    {kg_MARK : Tok}
    {kg_MOST_ON_WAY : Tok}
    (ac_Link : PySem.W.nsIn K mainGlobals "Link" = some (some (.ref c_Link)))
    (a_law_dice : PySem.W.nsIn K mainGlobals "_law_dice" = some (some (.ref f_law_dice)))
    (l_law_dice : K.lookup f_law_dice = some ⟨oc_law_dice, od_law_dice, .func (PySem.W.fnOf "_law_dice" "_law_dice" (defArgs s_law_dice) (defBody s_law_dice) (defScope s_law_dice) .none kV_law_dice doc_law_dice pm_law_dice an_law_dice cd_law_dice ct_law_dice), sl_law_dice⟩)
    (c_law_dice' : PySem.W.codeIn K cd_law_dice "_law_dice" = true)
    (k_law_dice : PySem.W.keepIn K (.ref f_law_dice) = true)
    (a_law_rounds : PySem.W.nsIn K mainGlobals "_law_rounds" = some (some (.ref f_law_rounds)))
    (l_law_rounds : K.lookup f_law_rounds = some ⟨oc_law_rounds, od_law_rounds, .func (PySem.W.fnOf "_law_rounds" "_law_rounds" (defArgs s_law_rounds) (defBody s_law_rounds) (defScope s_law_rounds) .none kV_law_rounds doc_law_rounds pm_law_rounds an_law_rounds cd_law_rounds ct_law_rounds), sl_law_rounds⟩)
    (c_law_rounds' : PySem.W.codeIn K cd_law_rounds "_law_rounds" = true)
    (k_law_rounds : PySem.W.keepIn K (.ref f_law_rounds) = true)
    (a_Link_init : PySem.W.findIn K (.ref c_Link) "__init__" = some (some (.ref f_Link_init)))
    (i_Link_init : PySem.W.isFn K (.ref f_Link_init) = true)
    (l_Link_init : K.lookup f_Link_init = some ⟨oc_Link_init, od_Link_init, .func (PySem.W.fnOf "__init__" "Link.__init__" (defArgs s_Link_init) (defBody s_Link_init) (defScope s_Link_init) (.ref T_Link_init) kV_Link_init doc_Link_init pm_Link_init an_Link_init cd_Link_init ct_Link_init), sl_Link_init⟩)
    (c_Link_init' : PySem.W.codeIn K cd_Link_init "Link.__init__" = true)
    (k_Link_init : PySem.W.keepIn K (.ref f_Link_init) = true)
    (t_Link_init : K.lookup T_Link_init = some ⟨tc_Link_init, td_Link_init, .seq #[.int (60) k0_Link_init] tm_Link_init, ts_Link_init⟩)
    (a_Link_other : PySem.W.findIn K (.ref c_Link) "other" = some (some (.ref f_Link_other)))
    (i_Link_other : PySem.W.isFn K (.ref f_Link_other) = true)
    (l_Link_other : K.lookup f_Link_other = some ⟨oc_Link_other, od_Link_other, .func (PySem.W.fnOf "other" "Link.other" (defArgs s_Link_other) (defBody s_Link_other) (defScope s_Link_other) .none kV_Link_other doc_Link_other pm_Link_other an_Link_other cd_Link_other ct_Link_other), sl_Link_other⟩)
    (c_Link_other' : PySem.W.codeIn K cd_Link_other "Link.other" = true)
    (k_Link_other : PySem.W.keepIn K (.ref f_Link_other) = true)
    (a_Link_send : PySem.W.findIn K (.ref c_Link) "send" = some (some (.ref f_Link_send)))
    (i_Link_send : PySem.W.isFn K (.ref f_Link_send) = true)
    (l_Link_send : K.lookup f_Link_send = some ⟨oc_Link_send, od_Link_send, .func (PySem.W.fnOf "send" "Link.send" (defArgs s_Link_send) (defBody s_Link_send) (defScope s_Link_send) .none kV_Link_send doc_Link_send pm_Link_send an_Link_send cd_Link_send ct_Link_send), sl_Link_send⟩)
    (c_Link_send' : PySem.W.codeIn K cd_Link_send "Link.send" = true)
    (k_Link_send : PySem.W.keepIn K (.ref f_Link_send) = true)
    (a_law_roll : PySem.W.nsIn K mainGlobals "_law_roll" = some (some (.ref f_law_roll)))
    (l_law_roll : K.lookup f_law_roll = some ⟨oc_law_roll, od_law_roll, .func (PySem.W.fnOf "_law_roll" "_law_roll" (defArgs s_law_roll) (defBody s_law_roll) (defScope s_law_roll) .none kV_law_roll doc_law_roll pm_law_roll an_law_roll cd_law_roll ct_law_roll), sl_law_roll⟩)
    (c_law_roll' : PySem.W.codeIn K cd_law_roll "_law_roll" = true)
    (k_law_roll : PySem.W.keepIn K (.ref f_law_roll) = true)
    (a_bent_bytes : PySem.W.nsIn K mainGlobals "bent_bytes" = some (some (.ref f_bent_bytes)))
    (l_bent_bytes : K.lookup f_bent_bytes = some ⟨oc_bent_bytes, od_bent_bytes, .func (PySem.W.fnOf "bent_bytes" "bent_bytes" (defArgs s_bent_bytes) (defBody s_bent_bytes) (defScope s_bent_bytes) .none kV_bent_bytes doc_bent_bytes pm_bent_bytes an_bent_bytes cd_bent_bytes ct_bent_bytes), sl_bent_bytes⟩)
    (c_bent_bytes' : PySem.W.codeIn K cd_bent_bytes "bent_bytes" = true)
    (k_bent_bytes : PySem.W.keepIn K (.ref f_bent_bytes) = true)
    (a_law_bent : PySem.W.nsIn K mainGlobals "_law_bent" = some (some (.ref f_law_bent)))
    (l_law_bent : K.lookup f_law_bent = some ⟨oc_law_bent, od_law_bent, .func (PySem.W.fnOf "_law_bent" "_law_bent" (defArgs s_law_bent) (defBody s_law_bent) (defScope s_law_bent) .none kV_law_bent doc_law_bent pm_law_bent an_law_bent cd_law_bent ct_law_bent), sl_law_bent⟩)
    (c_law_bent' : PySem.W.codeIn K cd_law_bent "_law_bent" = true)
    (k_law_bent : PySem.W.keepIn K (.ref f_law_bent) = true)
    (a_Link_act : PySem.W.findIn K (.ref c_Link) "act" = some (some (.ref f_Link_act)))
    (i_Link_act : PySem.W.isFn K (.ref f_Link_act) = true)
    (l_Link_act : K.lookup f_Link_act = some ⟨oc_Link_act, od_Link_act, .func (PySem.W.fnOf "act" "Link.act" (defArgs s_Link_act) (defBody s_Link_act) (defScope s_Link_act) .none kV_Link_act doc_Link_act pm_Link_act an_Link_act cd_Link_act ct_Link_act), sl_Link_act⟩)
    (c_Link_act' : PySem.W.codeIn K cd_Link_act "Link.act" = true)
    (k_Link_act : PySem.W.keepIn K (.ref f_Link_act) = true)
    (a_Link_set_up : PySem.W.findIn K (.ref c_Link) "set_up" = some (some (.ref f_Link_set_up)))
    (i_Link_set_up : PySem.W.isFn K (.ref f_Link_set_up) = true)
    (l_Link_set_up : K.lookup f_Link_set_up = some ⟨oc_Link_set_up, od_Link_set_up, .func (PySem.W.fnOf "set_up" "Link.set_up" (defArgs s_Link_set_up) (defBody s_Link_set_up) (defScope s_Link_set_up) .none kV_Link_set_up doc_Link_set_up pm_Link_set_up an_Link_set_up cd_Link_set_up ct_Link_set_up), sl_Link_set_up⟩)
    (c_Link_set_up' : PySem.W.codeIn K cd_Link_set_up "Link.set_up" = true)
    (k_Link_set_up : PySem.W.keepIn K (.ref f_Link_set_up) = true)
    (a_Link_next : PySem.W.findIn K (.ref c_Link) "next" = some (some (.ref f_Link_next)))
    (i_Link_next : PySem.W.isFn K (.ref f_Link_next) = true)
    (l_Link_next : K.lookup f_Link_next = some ⟨oc_Link_next, od_Link_next, .func (PySem.W.fnOf "next" "Link.next" (defArgs s_Link_next) (defBody s_Link_next) (defScope s_Link_next) .none kV_Link_next doc_Link_next pm_Link_next an_Link_next cd_Link_next ct_Link_next), sl_Link_next⟩)
    (c_Link_next' : PySem.W.codeIn K cd_Link_next "Link.next" = true)
    (k_Link_next : PySem.W.keepIn K (.ref f_Link_next) = true)
    (a_law : PySem.W.nsIn K mainGlobals "law" = some (some (.ref f_law)))
    (l_law : K.lookup f_law = some ⟨oc_law, od_law, .func (PySem.W.fnOf "law" "law" (defArgs s_law) (defBody s_law) (defScope s_law) .none kV_law doc_law pm_law an_law (.ref cL) ct_law), sl_law⟩)
    (c_law' : PySem.W.codeIn K (.ref cL) "law" = true)
    (k_law : PySem.W.keepIn K (.ref f_law) = true)
    (a_law_told : PySem.W.nsIn K mainGlobals "_law_told" = some (some (.ref f_law_told)))
    (l_law_told : K.lookup f_law_told = some ⟨oc_law_told, od_law_told, .func (PySem.W.fnOf "_law_told" "_law_told" (defArgs s_law_told) (defBody s_law_told) (defScope s_law_told) .none kV_law_told doc_law_told pm_law_told an_law_told cd_law_told ct_law_told), sl_law_told⟩)
    (c_law_told' : PySem.W.codeIn K cd_law_told "_law_told" = true)
    (k_law_told : PySem.W.keepIn K (.ref f_law_told) = true)
    (pg_Link : PySem.W.plainGet K c_Link Str.empty = true)
    (hd_Link : PySem.W.hasDictIn K c_Link = true)
    (po_Link : PySem.W.plainOver K c_Link = true)
    (sa_Link : PySem.W.findIn K (.ref c_Link) "__setattr__" = some (some (.builtin "object.__setattr__")))
    (mk_Link : PySem.W.makesIn K c_Link = true)
    (kc_Link : PySem.W.keepIn K (.ref c_Link) = true)
    (na_Link_first : PySem.W.findIn K (.ref c_Link) "first" = some none)
    (na_Link_second : PySem.W.findIn K (.ref c_Link) "second" = some none)
    (na_Link_room : PySem.W.findIn K (.ref c_Link) "room" = some none)
    (na_Link_up : PySem.W.findIn K (.ref c_Link) "up" = some none)
    (na_Link_on_way : PySem.W.findIn K (.ref c_Link) "on_way" = some none)
    (na_Link_lost : PySem.W.findIn K (.ref c_Link) "lost" = some none)
    (na_Link_arrived : PySem.W.findIn K (.ref c_Link) "arrived" = some none)
    (ae_NetError : PySem.W.nsIn K mainGlobals "NetError" = some (some (.ref e_NetError)))
    (ae_RouteError : PySem.W.nsIn K mainGlobals "RouteError" = some (some (.ref e_RouteError)))
    (x_RouteError : PySem.W.excIn K e_RouteError [.type "ValueError", .type "Exception", .type "BaseException", .type "object"] "ValueError.__new__" = true)
    (ke_RouteError : PySem.W.keepIn K (.ref e_RouteError) = true)
    (sb_RouteError : PySem.W.subIn K (.ref e_RouteError) (.type "BaseException") = some true)
    (ty_RouteError : PySem.W.typeIn K (.ref e_RouteError) = some (.type "type"))
    (g_DEEDS : PySem.W.nsIn K mainGlobals "DEEDS" = some (some (.int (6) kg_DEEDS)))
    (g_ESCAPE : PySem.W.nsIn K mainGlobals "ESCAPE" = some (some (.int (125) kg_ESCAPE)))
    (g_MARK : PySem.W.nsIn K mainGlobals "MARK" = some (some (.int (126) kg_MARK)))
    (g_MOST_ON_WAY : PySem.W.nsIn K mainGlobals "MOST_ON_WAY" = some (some (.int (200) kg_MOST_ON_WAY)))
    (z_abs : PySem.W.nsIn K mainGlobals "abs" = some none)
    (z_int : PySem.W.nsIn K mainGlobals "int" = some none)
    (z_len : PySem.W.nsIn K mainGlobals "len" = some none)
    (z_range : PySem.W.nsIn K mainGlobals "range" = some none)
    (z_tuple : PySem.W.nsIn K mainGlobals "tuple" = some none)
    (lc : K.lookup cL = some ⟨.type "code", dcL, .fields vsL, slL⟩)
    (q11 : vsL[11]? = some (.ref pL))
    (q18 : vsL.getD 18 .none = .str fileL tfL)
    (q7 : vsL.getD 7 .none = .int flL tgL)
    (q9 : vsL.getD 9 .none = .bool inL)
    (q10 : vsL.getD 10 .none = .int txL ttL)
    (ne : cL ≠ pL)
    (nT : K.lookup pL = none)
    (ih : PySem.W.isClsIn K e_RouteError = true)
    (xm_NetError : PySem.W.subIn K (.ref e_NetError) (.ref e_RouteError) = some (grab 0))
    (xm_RouteError : PySem.W.subIn K (.ref e_RouteError) (.ref e_RouteError) = some (grab 1))
    : LamX.LawAtS l w K (L2.CX l.prog w) 8 63 "script" mg fa h := by
  have e := hfa.symm.trans (PySem.W.mg_of X G a_law)
  cases e
  have F_law_dice := fun_mk (st := s_law_dice) l_law_dice c_law_dice' k_law_dice
  have B_law_dice := F_law_dice.binds (ps := ["cell"]) fun _ _ _ _ _ _ us hl => match us, hl with | [_], _ => rfl
  have F_law_rounds := fun_mk (st := s_law_rounds) l_law_rounds c_law_rounds' k_law_rounds
  have B_law_rounds := F_law_rounds.binds (ps := ["script", "most"]) fun _ _ _ _ _ _ us hl => match us, hl with | [_, _], _ => rfl
  have F_Link_init := funD_mk (dvs := [V.int (60)]) (its := [.int (60) k0_Link_init]) l_Link_init c_Link_init' k_Link_init t_Link_init (.cons ⟨_, rfl⟩ (.nil)) (by simp)
  have B_Link_init := bindsAll (ps := ["self", "first", "second", "room"]) F_Link_init (by simp) (fun _ _ _ _ _ _ _ us its h1 h2 => match us, its, h1, h2 with | [_, _, _, _], [_], _, _ => ⟨_, rfl, rfl⟩)
  obtain ⟨ds1_Link_init, V1_Link_init, B1_Link_init⟩ := F_Link_init.binds1 (ps := ["self", "first", "second", "room"]) 3 0 (by simp) (by simp) (fun _ _ _ _ _ _ _ us its h1 h2 => match us, its, h1, h2 with | [_, _, _], [_], _, _ => ⟨_, rfl, rfl⟩)
  have F_Link_other := fun_mk (st := s_Link_other) l_Link_other c_Link_other' k_Link_other
  have B_Link_other := F_Link_other.binds (ps := ["self", "name"]) fun _ _ _ _ _ _ us hl => match us, hl with | [_, _], _ => rfl
  have F_Link_send := fun_mk (st := s_Link_send) l_Link_send c_Link_send' k_Link_send
  have B_Link_send := F_Link_send.binds (ps := ["self", "name", "data"]) fun _ _ _ _ _ _ us hl => match us, hl with | [_, _, _], _ => rfl
  have F_law_roll := fun_mk (st := s_law_roll) l_law_roll c_law_roll' k_law_roll
  have B_law_roll := F_law_roll.binds (ps := ["dice", "many"]) fun _ _ _ _ _ _ us hl => match us, hl with | [_, _], _ => rfl
  have F_bent_bytes := fun_mk (st := s_bent_bytes) l_bent_bytes c_bent_bytes' k_bent_bytes
  have B_bent_bytes := F_bent_bytes.binds (ps := ["data", "spot", "change"]) fun _ _ _ _ _ _ us hl => match us, hl with | [_, _, _], _ => rfl
  have F_law_bent := fun_mk (st := s_law_bent) l_law_bent c_law_bent' k_law_bent
  have B_law_bent := F_law_bent.binds (ps := ["data", "spot", "change"]) fun _ _ _ _ _ _ us hl => match us, hl with | [_, _, _], _ => rfl
  have F_Link_act := fun_mk (st := s_Link_act) l_Link_act c_Link_act' k_Link_act
  have B_Link_act := F_Link_act.binds (ps := ["self", "choice"]) fun _ _ _ _ _ _ us hl => match us, hl with | [_, _], _ => rfl
  have F_Link_set_up := fun_mk (st := s_Link_set_up) l_Link_set_up c_Link_set_up' k_Link_set_up
  have B_Link_set_up := F_Link_set_up.binds (ps := ["self", "up"]) fun _ _ _ _ _ _ us hl => match us, hl with | [_, _], _ => rfl
  have F_Link_next := fun_mk (st := s_Link_next) l_Link_next c_Link_next' k_Link_next
  have B_Link_next := F_Link_next.binds (ps := ["self"]) fun _ _ _ _ _ _ us hl => match us, hl with | [_], _ => rfl
  have F_law := fun_mk (st := s_law) l_law c_law' k_law
  have B_law := F_law.binds (ps := ["script"]) fun _ _ _ _ _ _ us hl => match us, hl with | [_], _ => rfl
  have F_law_told := fun_mk (st := s_law_told) l_law_told c_law_told' k_law_told
  have B_law_told := F_law_told.binds (ps := ["what"]) fun _ _ _ _ _ _ us hl => match us, hl with | [_], _ => rfl
  let t : Tb := ⟨[(pL, ("law.<locals>." : Str) ++ "<lambda>")], [(c_Link, k_Link)], [e_NetError, e_RouteError]⟩
  let a : Ad := { f_law_dice := f_law_dice, d_law_dice := PySem.W.fnOf "_law_dice" "_law_dice" (defArgs s_law_dice) (defBody s_law_dice) (defScope s_law_dice) .none kV_law_dice doc_law_dice pm_law_dice an_law_dice cd_law_dice ct_law_dice, f_law_rounds := f_law_rounds, d_law_rounds := PySem.W.fnOf "_law_rounds" "_law_rounds" (defArgs s_law_rounds) (defBody s_law_rounds) (defScope s_law_rounds) .none kV_law_rounds doc_law_rounds pm_law_rounds an_law_rounds cd_law_rounds ct_law_rounds, f_Link_init := f_Link_init, d_Link_init := PySem.W.fnOf "__init__" "Link.__init__" (defArgs s_Link_init) (defBody s_Link_init) (defScope s_Link_init) (.ref T_Link_init) kV_Link_init doc_Link_init pm_Link_init an_Link_init cd_Link_init ct_Link_init, ds1_Link_init := ds1_Link_init, f_Link_other := f_Link_other, d_Link_other := PySem.W.fnOf "other" "Link.other" (defArgs s_Link_other) (defBody s_Link_other) (defScope s_Link_other) .none kV_Link_other doc_Link_other pm_Link_other an_Link_other cd_Link_other ct_Link_other, f_Link_send := f_Link_send, d_Link_send := PySem.W.fnOf "send" "Link.send" (defArgs s_Link_send) (defBody s_Link_send) (defScope s_Link_send) .none kV_Link_send doc_Link_send pm_Link_send an_Link_send cd_Link_send ct_Link_send, f_law_roll := f_law_roll, d_law_roll := PySem.W.fnOf "_law_roll" "_law_roll" (defArgs s_law_roll) (defBody s_law_roll) (defScope s_law_roll) .none kV_law_roll doc_law_roll pm_law_roll an_law_roll cd_law_roll ct_law_roll, f_bent_bytes := f_bent_bytes, d_bent_bytes := PySem.W.fnOf "bent_bytes" "bent_bytes" (defArgs s_bent_bytes) (defBody s_bent_bytes) (defScope s_bent_bytes) .none kV_bent_bytes doc_bent_bytes pm_bent_bytes an_bent_bytes cd_bent_bytes ct_bent_bytes, f_law_bent := f_law_bent, d_law_bent := PySem.W.fnOf "_law_bent" "_law_bent" (defArgs s_law_bent) (defBody s_law_bent) (defScope s_law_bent) .none kV_law_bent doc_law_bent pm_law_bent an_law_bent cd_law_bent ct_law_bent, f_Link_act := f_Link_act, d_Link_act := PySem.W.fnOf "act" "Link.act" (defArgs s_Link_act) (defBody s_Link_act) (defScope s_Link_act) .none kV_Link_act doc_Link_act pm_Link_act an_Link_act cd_Link_act ct_Link_act, f_Link_set_up := f_Link_set_up, d_Link_set_up := PySem.W.fnOf "set_up" "Link.set_up" (defArgs s_Link_set_up) (defBody s_Link_set_up) (defScope s_Link_set_up) .none kV_Link_set_up doc_Link_set_up pm_Link_set_up an_Link_set_up cd_Link_set_up ct_Link_set_up, f_Link_next := f_Link_next, d_Link_next := PySem.W.fnOf "next" "Link.next" (defArgs s_Link_next) (defBody s_Link_next) (defScope s_Link_next) .none kV_Link_next doc_Link_next pm_Link_next an_Link_next cd_Link_next ct_Link_next, f_law := fa, d_law := PySem.W.fnOf "law" "law" (defArgs s_law) (defBody s_law) (defScope s_law) .none kV_law doc_law pm_law an_law (.ref cL) ct_law, f_law_told := f_law_told, d_law_told := PySem.W.fnOf "_law_told" "_law_told" (defArgs s_law_told) (defBody s_law_told) (defScope s_law_told) .none kV_law_told doc_law_told pm_law_told an_law_told cd_law_told ct_law_told, c_Link := c_Link, e_NetError := e_NetError, e_RouteError := e_RouteError, cL := cL, pL := pL }
  have T : Tx K mg t a := {
    fun_law_dice := F_law_dice, b_law_dice := B_law_dice,
    m_law_dice := PySem.W.mg_of X G a_law_dice, k_law_dice := k_law_dice,
    fun_law_rounds := F_law_rounds, b_law_rounds := B_law_rounds,
    m_law_rounds := PySem.W.mg_of X G a_law_rounds, k_law_rounds := k_law_rounds,
    v1_Link_init := V1_Link_init, b1_Link_init := B1_Link_init,
    fun_Link_init := F_Link_init, b_Link_init := B_Link_init,
    fun_Link_other := F_Link_other, b_Link_other := B_Link_other,
    me_Link_other := ⟨a_Link_other, i_Link_other, k_Link_other⟩,
    fun_Link_send := F_Link_send, b_Link_send := B_Link_send,
    me_Link_send := ⟨a_Link_send, i_Link_send, k_Link_send⟩,
    fun_law_roll := F_law_roll, b_law_roll := B_law_roll,
    m_law_roll := PySem.W.mg_of X G a_law_roll, k_law_roll := k_law_roll,
    fun_bent_bytes := F_bent_bytes, b_bent_bytes := B_bent_bytes,
    m_bent_bytes := PySem.W.mg_of X G a_bent_bytes, k_bent_bytes := k_bent_bytes,
    fun_law_bent := F_law_bent, b_law_bent := B_law_bent,
    m_law_bent := PySem.W.mg_of X G a_law_bent, k_law_bent := k_law_bent,
    fun_Link_act := F_Link_act, b_Link_act := B_Link_act,
    me_Link_act := ⟨a_Link_act, i_Link_act, k_Link_act⟩,
    fun_Link_set_up := F_Link_set_up, b_Link_set_up := B_Link_set_up,
    me_Link_set_up := ⟨a_Link_set_up, i_Link_set_up, k_Link_set_up⟩,
    fun_Link_next := F_Link_next, b_Link_next := B_Link_next,
    me_Link_next := ⟨a_Link_next, i_Link_next, k_Link_next⟩,
    fun_law := F_law, b_law := B_law,
    m_law := PySem.W.mg_of X G a_law, k_law := k_law,
    fun_law_told := F_law_told, b_law_told := B_law_told,
    m_law_told := PySem.W.mg_of X G a_law_told, k_law_told := k_law_told,
    tC_Link := rfl, cl_Link := ⟨pg_Link, hd_Link, po_Link, sa_Link⟩,
    mk_Link := ⟨mk_Link, a_Link_init, i_Link_init, kc_Link⟩, mgc_Link := PySem.W.mg_of X G ac_Link,
    na_Link_first := na_Link_first,
    na_Link_second := na_Link_second,
    na_Link_room := na_Link_room,
    na_Link_up := na_Link_up,
    na_Link_on_way := na_Link_on_way,
    na_Link_lost := na_Link_lost,
    na_Link_arrived := na_Link_arrived,
    e_RouteError := PySem.W.mg_of X G ae_RouteError, tE_RouteError := rfl, x_RouteError := x_RouteError, ke_RouteError := ke_RouteError, re_RouteError := fun q => raises_own (by rw [q]; exact sb_RouteError) (by rw [q]; exact ty_RouteError),
    g_DEEDS := ⟨_, PySem.W.mg_of X G g_DEEDS, _, rfl⟩,
    g_ESCAPE := ⟨_, PySem.W.mg_of X G g_ESCAPE, _, rfl⟩,
    g_MARK := ⟨_, PySem.W.mg_of X G g_MARK, _, rfl⟩,
    g_MOST_ON_WAY := ⟨_, PySem.W.mg_of X G g_MOST_ON_WAY, _, rfl⟩,
    z_abs := PySem.W.mg_none_of X G z_abs,
    z_int := PySem.W.mg_none_of X G z_int,
    z_len := PySem.W.mg_none_of X G z_len,
    z_range := PySem.W.mg_none_of X G z_range,
    z_tuple := PySem.W.mg_none_of X G z_tuple,
    hcat := fun i C h => by
      match i, h with
      | 0, h => cases h; exact exm_mk sb_RouteError ih ty_RouteError xm_NetError
      | 1, h => cases h; exact exm_mk sb_RouteError ih ty_RouteError xm_RouteError
      | n + 2, h => exact (nomatch (show (none : Option Addr) = some C from h)),
    tT_in := List.mem_singleton.mpr rfl, tT_un := fun q hq _ => by rw [List.mem_singleton.mp hq] }
  have hg : h.get? pL = some { cls := .none, data := .fields #[] } := own_tab own l_law rfl rfl lc q11
  refine ⟨_, [(cL, pL)], spF K t 1 c_law, fun p hp => by rw [List.mem_singleton.mp hp]; exact hg, fun p hp => by rw [List.mem_singleton.mp hp]; exact nT, fun p hp => by rw [List.mem_singleton.mp hp]; exact codeHd_mk X lc q11 q18 q7 q9 q10 ne, fun s u => .of_eq rfl, fun H a' ns hl hb hT hS => ?_, fun base _ _ hB => ok_law (a := a) T (hB _ (List.mem_singleton.mpr rfl)) rfl⟩
  exact sp_end (fun p hp => by rw [List.mem_singleton.mp hp]; exact LamX.TabS.nil (hT _ (List.mem_singleton.mpr rfl))) hS (law_true ns hl hb)
theorem walk {l : PySem.W.OpenLaw} {q : Program} {loose : List Str} {XP : (Str → Option Value) → Heap → Prop} {YP : World → Heap → Prop} {d : DefRec} {K : Params → PySem.W.Frag} (hn : l.most = some 63) (hdf : d.params.defaults = []) (hrec : ((recsOf q).any fun e => e.name == d.name) = true)
    (hY : ∀ (w : World) (h : Heap), YP w h → (K w.params).In h)
    (F : ∀ (w : World) (mg : Str → Option Value) (fa : Addr) (h : Heap), YP w h → (K w.params).In h → h.Ns mainGlobals mg → mg d.name = some (.ref fa) → LamX.OwnTab (K w.params) fa h → LamX.LawAtS l w (K w.params) (L2.CX l.prog w) 8 63 "script" mg fa h) :
    PySem.W.WalkO q loose XP YP l.row.toRowW d [] (fun f vs => PySem.call f vs) :=
  LamX.walk_ofOwn (n := 63) (k := 8) (x := "script") (CX := fun w => L2.CX l.prog w) hn (by decide) hdf ⟨rfl, by decide, by decide⟩ hrec hY F (fun w H s e s' z => by obtain ⟨_, _, _, _, _, _, _, _, _, _, _, _, q⟩ := z; exact q)
end G04
open PySem PySem.W PyProof.Rows in
set_option maxRecDepth 100000 in
set_option maxHeartbeats 0 in
set_option pp.maxSteps 1500 in
theorem PySem.Challenge.cw_wirestack_k04_links_that_lose_and_bend_holds : PySem.Challenge.rw_wirestack_k04_links_that_lose_and_bend.Holds := by
  w_on; o_law; k_head; (case hw => w_witness2)
  k_fill
  refine G04.walk (l := PySem.Challenge.rw_wirestack_k04_links_that_lose_and_bend) rfl rfl ?hrec (fun w h Y => by first | exact PySem.W.km_in_of Y | exact PySem.W.kIn_of Y) ?F
  case hrec => first | rfl | decide +kernel
  case F =>
    intro w mg fa h Y KX G hmg own
    refine' G04.all_mk KX G hmg own ?ac_Link ?a_law_dice ?l_law_dice ?c_law_dice' ?k_law_dice ?a_law_rounds ?l_law_rounds ?c_law_rounds' ?k_law_rounds ?a_Link_init ?i_Link_init ?l_Link_init ?c_Link_init' ?k_Link_init ?t_Link_init ?a_Link_other ?i_Link_other ?l_Link_other ?c_Link_other' ?k_Link_other ?a_Link_send ?i_Link_send ?l_Link_send ?c_Link_send' ?k_Link_send ?a_law_roll ?l_law_roll ?c_law_roll' ?k_law_roll ?a_bent_bytes ?l_bent_bytes ?c_bent_bytes' ?k_bent_bytes ?a_law_bent ?l_law_bent ?c_law_bent' ?k_law_bent ?a_Link_act ?i_Link_act ?l_Link_act ?c_Link_act' ?k_Link_act ?a_Link_set_up ?i_Link_set_up ?l_Link_set_up ?c_Link_set_up' ?k_Link_set_up ?a_Link_next ?i_Link_next ?l_Link_next ?c_Link_next' ?k_Link_next ?a_law ?l_law ?c_law' ?k_law ?a_law_told ?l_law_told ?c_law_told' ?k_law_told ?pg_Link ?hd_Link ?po_Link ?sa_Link ?mk_Link ?kc_Link ?na_Link_first ?na_Link_second ?na_Link_room ?na_Link_up ?na_Link_on_way ?na_Link_lost ?na_Link_arrived ?ae_NetError ?ae_RouteError ?x_RouteError ?ke_RouteError ?sb_RouteError ?ty_RouteError ?g_DEEDS ?g_ESCAPE ?g_MARK ?g_MOST_ON_WAY ?z_abs ?z_int ?z_len ?z_range ?z_tuple ?lc ?q11 ?q18 ?q7 ?q9 ?q10 ?ne ?nT ?ih ?xm_NetError ?xm_RouteError
    (case ac_Link => k_is)
    (case a_law_dice => k_is)
    (case l_law_dice => k_is)
    (case c_law_dice' => k_is)
    (case k_law_dice => k_is)
    (case a_law_rounds => k_is)
    (case l_law_rounds => k_is)
    (case c_law_rounds' => k_is)
    (case k_law_rounds => k_is)
    (case a_Link_init => k_is)
    (case i_Link_init => k_is)
    (case l_Link_init => k_is)
    (case c_Link_init' => k_is)
    (case k_Link_init => k_is)
    (case t_Link_init => k_is)
    (case a_Link_other => k_is)
    (case i_Link_other => k_is)
    (case l_Link_other => k_is)
    (case c_Link_other' => k_is)
    (case k_Link_other => k_is)
    (case a_Link_send => k_is)
    (case i_Link_send => k_is)
    (case l_Link_send => k_is)
    (case c_Link_send' => k_is)
    (case k_Link_send => k_is)
    (case a_law_roll => k_is)
    (case l_law_roll => k_is)
    (case c_law_roll' => k_is)
    (case k_law_roll => k_is)
    (case a_bent_bytes => k_is)
    (case l_bent_bytes => k_is)
    (case c_bent_bytes' => k_is)
    (case k_bent_bytes => k_is)
    (case a_law_bent => k_is)
    (case l_law_bent => k_is)
    (case c_law_bent' => k_is)
    (case k_law_bent => k_is)
    (case a_Link_act => k_is)
    (case i_Link_act => k_is)
    (case l_Link_act => k_is)
    (case c_Link_act' => k_is)
    (case k_Link_act => k_is)
    (case a_Link_set_up => k_is)
    (case i_Link_set_up => k_is)
    (case l_Link_set_up => k_is)
    (case c_Link_set_up' => k_is)
    (case k_Link_set_up => k_is)
    (case a_Link_next => k_is)
    (case i_Link_next => k_is)
    (case l_Link_next => k_is)
    (case c_Link_next' => k_is)
    (case k_Link_next => k_is)
    (case a_law => k_is)
    (case l_law => k_is)
    (case c_law' => k_is)
    (case k_law => k_is)
    (case a_law_told => k_is)
    (case l_law_told => k_is)
    (case c_law_told' => k_is)
    (case k_law_told => k_is)
    (case pg_Link => k_is)
    (case hd_Link => k_is)
    (case po_Link => k_is)
    (case sa_Link => k_is)
    (case mk_Link => k_is)
    (case kc_Link => k_is)
    (case na_Link_first => k_is)
    (case na_Link_second => k_is)
    (case na_Link_room => k_is)
    (case na_Link_up => k_is)
    (case na_Link_on_way => k_is)
    (case na_Link_lost => k_is)
    (case na_Link_arrived => k_is)
    (case ae_NetError => k_is)
    (case ae_RouteError => k_is)
    (case x_RouteError => k_exc)
    (case ke_RouteError => k_is)
    (case sb_RouteError => k_is)
    (case ty_RouteError => k_is)
    (case g_DEEDS => k_is)
    (case g_ESCAPE => k_is)
    (case g_MARK => k_is)
    (case g_MOST_ON_WAY => k_is)
    (case z_abs => k_is)
    (case z_int => k_is)
    (case z_len => k_is)
    (case z_range => k_is)
    (case z_tuple => k_is)
    (case lc => k_is)
    (case q11 => rfl)
    (case q18 => rfl)
    (case q7 => rfl)
    (case q9 => rfl)
    (case q10 => rfl)
    (case ne => decide)
    (case nT => rfl)
    (case ih => k_is)
    (case xm_NetError => first | rfl | k_is)
    (case xm_RouteError => first | rfl | k_is)
