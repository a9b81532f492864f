import PyProof.Rows.All
import Wide.All
import OpenK.AllK
import Wide.FinOn
import HandS.ForMost
import HandS.ForExc
import HandS.CallSlots
import HandS.Lambda
import HandS.Star
import HandS.TupAny
import HandS.TupMul
import HandS.Deep
import HandS.IsInst
import HandS.Wide
import HandS.Style
import KE.GoesEnum
import HandS.Defaults
import HandS.WordsExc
import HandS.New0
import HandS.Small
import HandS.ExcValue
import HandS.Strs
import HandS.Flt
import HandS.SetFor
import HandS.HeadHook4
import HandS.HeadEnd
import HandS.Head0
import HandS.Head1
import HandS.Head2
import HandS.Ends
import HandS.ExcInit
import HandS.ExcField
import HandS.NestedK
import HandS.HeadWalk
import HandS.OwnEq
import PyProof.InstNe
import HandS.Dict
import HandS.SortRule
import HandS.SortInts
import HandS.TryOnly
import KE.KStateDown
import Lean
import PySem.Challenge.RW_neverlies_k73_whole_memories
set_option Elab.async false
set_option linter.all false
set_option maxRecDepth 100000
section
/-! Zd: deep values over the hand layer. -/
namespace Zd
open PySem PySem.Spec PyProof.Rows L2
set_option autoImplicit false

/-- a value, whole: what stands behind its addresses too -/
inductive D where
  | non | bl (b : Bool) | int (i : Int) | str (s : Str)
  | tup (xs : List D) | lst (xs : List D)
  /-- a list that is only read (the script) -/
  | frz (xs : List D)
  /-- an instance of the class number c: its attributes in the order of storing -/
  | ins (c : Nat) (xs : List D)
  /-- a dict of ints and texts: its keys, its values -/
  | dct (ks : List L2.Key) (xs : List D)
/-- an object that one frame alone may change -/
inductive OD where
  | lst (xs : List D) | ins (c : Nat) (xs : List D) | dct (ks : List L2.Key) (xs : List D)
def OD.toD : OD → D
  | .lst xs => .lst xs
  | .ins c xs => .ins c xs
  | .dct ks xs => .dct ks xs
/-- what a slot holds; own t: t = 0 an object of the frame's making, t = j + 1 the j-th argument's -/
inductive B where
  | val (d : D) | own (t : Nat) (o : OD)
abbrev Env := List (Option B)
/-- an exception: the class's number, its attributes -/
structure Exc where
  c : Nat
  xs : List D
/-- how a piece of code ends -/
inductive R (α : Type) where
  | ok (a : α) | ex (ρ : Env) (x : Exc) | bad
def R.bind {α β : Type} (r : R α) (f : α → R β) : R β := match r with
  | .ok a => f a
  | .ex ρ x => .ex ρ x
  | .bad => .bad
@[simp] theorem R.bind_ok {α β : Type} (a : α) (f : α → R β) : (R.ok a).bind f = f a := rfl
@[simp] theorem R.bind_ex {α β : Type} (ρ : Env) (x : Exc) (f : α → R β) : (R.ex ρ x).bind f = .ex ρ x := rfl
@[simp] theorem R.bind_bad {α β : Type} (f : α → R β) : (R.bad).bind f = .bad := rfl
def ofO {α : Type} : Option α → R α
  | some a => .ok a
  | none => .bad
@[simp] theorem ofO_some {α : Type} (a : α) : ofO (some a) = R.ok a := rfl
@[simp] theorem ofO_none {α : Type} : ofO (none : Option α) = R.bad := rfl

/-! ### the heap -/
/-- the program's classes as the top has made them: number -> address; the attributes in order; exceptions' classes -/
structure Tab where
  cls : Nat → Addr
  lay : Nat → List Str
  exc : Nat → Addr
  xlay : Nat → List Str
  /-- the tables of the defs that make lambdas, with these lambdas' names -/
  tabs : List (Addr × Str)
/-- no table of code objects -/
def NT (o : HO) : Prop := ∀ ps, o ≠ .tbl ps
theorem nt_lst {xs : List V} : NT (.lst xs) := fun _ z => nomatch z
/-- the tables stand, none of them in the frozen part -/
structure TabsG (T : Tab) (G H : Hp) : Prop where
  tb : LamX.Tabs T.tabs H
  no : ∀ a ps, G a ≠ some (.tbl ps)
theorem nt_dK {kvs : List (L2.Key × V)} : NT (.dK kvs) := fun _ z => nomatch z
theorem nt_ins {c : Addr} {dx : Addr} {fs : List (Str × V)} : NT (.ins c dx fs) := fun _ z => nomatch z

/-- a tuple whose object bears no dict -/
def SqP (K : PySem.W.Frag) (H : Hp) (a : Addr) (xs : List V) : Prop := (∃ o : Obj, H a = some (.frz o (.tup xs)) ∧ o.dict = none) ∨
  ∃ (o : Obj) (its : Array Value) (n : Nat), K.lookup a = some o ∧ o.dict = none ∧ o.cls = .type "tuple" ∧ o.data = .seq its n ∧ its.size ≤ sizeLine ∧ Vals xs its.toList
theorem SqP.t {K : PySem.W.Frag} {H : Hp} {a : Addr} {xs : List V} (h : SqP K H a xs) : SqT K H a xs := by
  rcases h with ⟨o, h, _⟩ | ⟨o, its, n, h1, _, h2, h3, h4, h5⟩
  · exact .inl (.inr ⟨o, h⟩)
  · exact .inr ⟨o, its, n, h1, h2, h3, h4, h5⟩
mutual
/-- v stands for the deep value, as far as the frozen part G tells -/
def Rz (K : PySem.W.Frag) (T : Tab) (G : Hp) (v : V) : D → Prop
  | .non => v = .non
  | .bl b => v = .bl b
  | .int i => v = .int i
  | .str s => v = .str s
  | .tup ds => ∃ a xs, v = .ref a ∧ SqP K G a xs ∧ RzL K T G xs ds
  | .lst ds => ∃ a xs, v = .ref a ∧ G a = some (.lst xs) ∧ RzL K T G xs ds
  | .frz ds => ∃ a xs, v = .ref a ∧ SqL K G a xs ∧ RzL K T G xs ds
  | .ins c ds => ∃ a dx fs, v = .ref a ∧ G a = some (.ins (T.cls c) dx fs) ∧ fs.map (·.1) = (T.lay c).take ds.length ∧ RzL K T G (fs.map (·.2)) ds
  | .dct ks ds => ∃ a kvs, v = .ref a ∧ G a = some (.dK kvs) ∧ kvs.map (·.1) = ks ∧ RzL K T G (kvs.map (·.2)) ds
def RzL (K : PySem.W.Frag) (T : Tab) (G : Hp) : List V → List D → Prop
  | [], [] => True
  | v :: vs, d :: ds => Rz K T G v d ∧ RzL K T G vs ds
  | _, _ => False
end
theorem RzL.len {K : PySem.W.Frag} {T : Tab} {G : Hp} : ∀ {vs : List V} {ds : List D}, RzL K T G vs ds → vs.length = ds.length
  | [], [], _ => rfl
  | v :: vs, d :: ds, h => by
    rw [RzL] at h
    rw [List.length_cons, List.length_cons, RzL.len h.2]
  | [], _ :: _, h => by simp [RzL] at h
  | _ :: _, [], h => by simp [RzL] at h
theorem Same.tup {K : PySem.W.Frag} {H H' : Hp} {a : Addr} {xs : List V} (e : Same H H') (h : SqT K H a xs) : SqT K H' a xs := by
  rcases h with (h | ⟨o, h⟩) | h
  · exact .inl (.inl (e _ _ h))
  · exact .inl (.inr ⟨o, e _ _ h⟩)
  · exact .inr h
theorem Same.tupP {K : PySem.W.Frag} {H H' : Hp} {a : Addr} {xs : List V} (e : Same H H') (h : SqP K H a xs) : SqP K H' a xs := by
  rcases h with ⟨o, h, h2⟩ | h
  · exact .inl ⟨o, e _ _ h, h2⟩
  · exact .inr h
mutual
theorem Rz.mono {K : PySem.W.Frag} {T : Tab} {G G' : Hp} (e : Same G G') : ∀ {v : V} (d : D), Rz K T G v d → Rz K T G' v d
  | _, .non, h => h
  | _, .bl _, h => h
  | _, .int _, h => h
  | _, .str _, h => h
  | _, .tup ds, h => by
    rw [Rz] at h ⊢
    obtain ⟨a, xs, e1, e2, e3⟩ := h
    exact ⟨a, xs, e1, Same.tupP e e2, RzL.mono e ds e3⟩
  | _, .lst ds, h => by
    rw [Rz] at h ⊢
    obtain ⟨a, xs, e1, e2, e3⟩ := h
    exact ⟨a, xs, e1, e _ _ e2, RzL.mono e ds e3⟩
  | _, .frz ds, h => by
    rw [Rz] at h ⊢
    obtain ⟨a, xs, e1, e2, e3⟩ := h
    exact ⟨a, xs, e1, e.seq e2, RzL.mono e ds e3⟩
  | _, .ins c ds, h => by
    rw [Rz] at h ⊢
    obtain ⟨a, dx, fs, e1, e2, e3, e4⟩ := h
    exact ⟨a, dx, fs, e1, e _ _ e2, e3, RzL.mono e ds e4⟩
  | _, .dct ks ds, h => by
    rw [Rz] at h ⊢
    obtain ⟨a, kvs, e1, e2, e3, e4⟩ := h
    exact ⟨a, kvs, e1, e _ _ e2, e3, RzL.mono e ds e4⟩
theorem RzL.mono {K : PySem.W.Frag} {T : Tab} {G G' : Hp} (e : Same G G') : ∀ {vs : List V} (ds : List D), RzL K T G vs ds → RzL K T G' vs ds
  | [], [], h => h
  | v :: vs, d :: ds, h => by
    rw [RzL] at h ⊢
    exact ⟨Rz.mono e d h.1, RzL.mono e ds h.2⟩
  | [], _ :: _, h => by simp [RzL] at h
  | _ :: _, [], h => by simp [RzL] at h
end
theorem RzL.nil {K : PySem.W.Frag} {T : Tab} {G : Hp} : RzL K T G [] [] := by rw [RzL]; trivial
theorem RzL.cons {K : PySem.W.Frag} {T : Tab} {G : Hp} {v : V} {vs : List V} {d : D} {ds : List D} (h : Rz K T G v d) (r : RzL K T G vs ds) : RzL K T G (v :: vs) (d :: ds) := by rw [RzL]; exact ⟨h, r⟩
theorem RzL.nil_inv {K : PySem.W.Frag} {T : Tab} {G : Hp} {vs : List V} (h : RzL K T G vs []) : vs = [] := by
  have := h.len
  cases vs with
  | nil => rfl
  | cons _ _ => simp at this
theorem RzL.cons_inv {K : PySem.W.Frag} {T : Tab} {G : Hp} {vs : List V} {d : D} {ds : List D} (h : RzL K T G vs (d :: ds)) : ∃ v r, vs = v :: r ∧ Rz K T G v d ∧ RzL K T G r ds := by
  cases vs with
  | nil => have := h.len; simp at this
  | cons v r => rw [RzL] at h; exact ⟨v, r, rfl, h.1, h.2⟩
theorem RzL.get {K : PySem.W.Frag} {T : Tab} {G : Hp} : ∀ {vs : List V} {ds : List D} {i : Nat} {d : D}, RzL K T G vs ds → ds[i]? = some d → ∃ v, vs[i]? = some v ∧ Rz K T G v d
  | vs, [], i, d, _, e => by simp at e
  | vs, d' :: ds, 0, d, h, e => by
    obtain ⟨v, r, rfl, h1, _⟩ := h.cons_inv
    simp at e; subst e
    exact ⟨v, rfl, h1⟩
  | vs, d' :: ds, i + 1, d, h, e => by
    obtain ⟨v, r, rfl, _, h2⟩ := h.cons_inv
    obtain ⟨v', e1, e2⟩ := RzL.get (i := i) h2 (by simpa using e)
    exact ⟨v', by simpa using e1, e2⟩
theorem RzL.append {K : PySem.W.Frag} {T : Tab} {G : Hp} : ∀ {vs ws : List V} {ds es : List D}, RzL K T G vs ds → RzL K T G ws es → RzL K T G (vs ++ ws) (ds ++ es)
  | vs, ws, [], es, h, r => by
    have := h.nil_inv; subst this; exact r
  | vs, ws, d :: ds, es, h, r => by
    obtain ⟨v, vr, rfl, h1, h2⟩ := h.cons_inv
    exact .cons h1 (RzL.append h2 r)
theorem RzL.set {K : PySem.W.Frag} {T : Tab} {G : Hp} {v : V} {d : D} (r : Rz K T G v d) : ∀ {vs : List V} {ds : List D} (i : Nat), RzL K T G vs ds → RzL K T G (vs.set i v) (ds.set i d)
  | vs, [], i, h => by have := h.nil_inv; subst this; simpa using h
  | vs, d' :: ds, 0, h => by
    obtain ⟨v', vr, rfl, h1, h2⟩ := h.cons_inv
    exact .cons r h2
  | vs, d' :: ds, i + 1, h => by
    obtain ⟨v', vr, rfl, h1, h2⟩ := h.cons_inv
    exact .cons h1 (RzL.set r i h2)
theorem RzL.take {K : PySem.W.Frag} {T : Tab} {G : Hp} : ∀ {vs : List V} {ds : List D} (n : Nat), RzL K T G vs ds → RzL K T G (vs.take n) (ds.take n)
  | vs, ds, 0, h => by simpa using RzL.nil
  | vs, [], n + 1, h => by have := h.nil_inv; subst this; simpa using h
  | vs, d :: ds, n + 1, h => by
    obtain ⟨v', vr, rfl, h1, h2⟩ := h.cons_inv
    exact .cons h1 (RzL.take n h2)
theorem RzL.drop {K : PySem.W.Frag} {T : Tab} {G : Hp} : ∀ {vs : List V} {ds : List D} (n : Nat), RzL K T G vs ds → RzL K T G (vs.drop n) (ds.drop n)
  | vs, ds, 0, h => h
  | vs, [], n + 1, h => by have := h.nil_inv; subst this; simpa using h
  | vs, d :: ds, n + 1, h => by
    obtain ⟨v', vr, rfl, h1, h2⟩ := h.cons_inv
    exact RzL.drop n h2

/-- an owned object -/
def RO (K : PySem.W.Frag) (T : Tab) (G H : Hp) (a : Addr) : OD → Prop
  | .lst ds => ∃ xs, H a = some (.lst xs) ∧ RzL K T G xs ds
  | .ins c ds => ∃ dx fs, H a = some (.ins (T.cls c) dx fs) ∧ fs.map (·.1) = (T.lay c).take ds.length ∧ RzL K T G (fs.map (·.2)) ds
  | .dct ks ds => ∃ kvs, H a = some (.dK kvs) ∧ kvs.map (·.1) = ks ∧ RzL K T G (kvs.map (·.2)) ds
theorem RO.mono {K : PySem.W.Frag} {T : Tab} {G G' H H' : Hp} {a : Addr} {o : OD} (e : Same G G') (k : ∀ u, H a = some u → NT u → H' a = some u) (h : RO K T G H a o) : RO K T G' H' a o := by
  cases o with
  | lst ds => obtain ⟨xs, e1, e2⟩ := h; exact ⟨xs, k _ e1 nt_lst, e2.mono e⟩
  | ins c ds => obtain ⟨dx, fs, e1, e2, e3⟩ := h; exact ⟨dx, fs, k _ e1 nt_ins, e2, e3.mono e⟩
  | dct ks ds => obtain ⟨kvs, e1, e2, e3⟩ := h; exact ⟨kvs, k _ e1 nt_dK, e2, e3.mono e⟩
theorem RO.there {K : PySem.W.Frag} {T : Tab} {G H : Hp} {a : Addr} {o : OD} (h : RO K T G H a o) : ∃ u, H a = some u := by
  cases o with
  | lst ds => obtain ⟨xs, e1, e2⟩ := h; exact ⟨_, e1⟩
  | ins c ds => obtain ⟨dx, fs, e1, e2, e3⟩ := h; exact ⟨_, e1⟩
  | dct ks ds => obtain ⟨kvs, e1, e2, e3⟩ := h; exact ⟨_, e1⟩
theorem RO.thereN {K : PySem.W.Frag} {T : Tab} {G H : Hp} {a : Addr} {o : OD} (h : RO K T G H a o) : ∃ u, H a = some u ∧ NT u := by
  cases o with
  | lst ds => obtain ⟨xs, e1, e2⟩ := h; exact ⟨_, e1, nt_lst⟩
  | ins c ds => obtain ⟨dx, fs, e1, e2, e3⟩ := h; exact ⟨_, e1, nt_ins⟩
  | dct ks ds => obtain ⟨kvs, e1, e2, e3⟩ := h; exact ⟨_, e1, nt_dK⟩

/-- the tables stand where no own object does -/
theorem RO.tabs {K : PySem.W.Frag} {T : Tab} {G H : Hp} {a : Addr} {o : OD} {u : HO} {TL : List (Addr × Str)} (h : RO K T G H a o) (t : LamX.Tabs TL H) : LamX.Tabs TL (upd H a u) := fun p hp => by
  obtain ⟨ps, h1, h2, h3⟩ := t p hp
  have ne1 : ∀ b x, H b = some x → (∀ xs, x ≠ .lst xs) → (∀ c dx fs, x ≠ .ins c dx fs) → (∀ kvs, x ≠ .dK kvs) → b ≠ a := fun b x e q1 q2 q3 z => by
    subst z
    cases o with
    | lst ds =>
      obtain ⟨xs, e1, _⟩ := h
      rw [e] at e1
      exact q1 _ (Option.some.inj e1)
    | ins c ds =>
      obtain ⟨dx, fs, e1, _⟩ := h
      rw [e] at e1
      exact q2 _ _ _ (Option.some.inj e1)
    | dct ks ds =>
      obtain ⟨kvs, e1, _⟩ := h
      rw [e] at e1
      exact q3 _ (Option.some.inj e1)
  refine ⟨ps, by rw [upd_ne (ne1 _ _ h1 (fun _ z => nomatch z) (fun _ _ _ z => nomatch z) (fun _ z => nomatch z))]; exact h1, h2, fun pos cv hc => ?_⟩
  obtain ⟨c, e1, e2⟩ := h3 pos cv hc
  refine ⟨c, e1, ?_⟩
  rw [upd_ne (ne1 _ _ e2 (fun _ z => by unfold LamX.CodeO at z; cases z) (fun _ _ _ z => by unfold LamX.CodeO at z; cases z) (fun _ z => by unfold LamX.CodeO at z; cases z))]
  exact e2
theorem TabsG.frz {T : Tab} {G H : Hp} {a : Addr} {u : HO} (t : TabsG T G H) (nt : NT u) : TabsG T (upd G a u) H := ⟨t.tb, fun b ps z => by
  by_cases hb : b = a
  · subst hb; rw [upd_same] at z; exact nt ps (Option.some.inj z)
  · rw [upd_ne hb] at z; exact t.no b ps z⟩
theorem TabsG.ext {T : Tab} {G H H' : Hp} (t : TabsG T G H) (s : Same H H') : TabsG T G H' := ⟨t.tb.ext fun a o h => s a o h, t.no⟩
theorem RO.tabsG {K : PySem.W.Frag} {T : Tab} {G H : Hp} {a : Addr} {o : OD} {u : HO} (h : RO K T G H a o) (t : TabsG T G H) : TabsG T G (upd H a u) := ⟨h.tabs t.tb, t.no⟩
def OwnAt (ρ : Env) (σ : L2.St) (a : Addr) : Prop := ∃ (i t : Nat) (o : OD), ρ[i]? = some (some (B.own t o)) ∧ σ[i]? = some (some (V.ref a))

/-- the abstract frame ρ stands for the slots σ over the frozen part G of H; τ: the arguments' addresses -/
structure Ok (K : PySem.W.Frag) (T : Tab) (τ : Nat → Addr) (ρ : Env) (σ : L2.St) (G H : Hp) : Prop where
  sub : Same G H
  len : ρ.length = σ.length
  val : ∀ (i : Nat) (d : D), ρ[i]? = some (some (B.val d)) → ∃ v, σ[i]? = some (some v) ∧ Rz K T G v d
  own : ∀ (i t : Nat) (o : OD), ρ[i]? = some (some (B.own t o)) → ∃ a, σ[i]? = some (some (V.ref a)) ∧ G a = none ∧ RO K T G H a o ∧ (t ≠ 0 → τ t = a)
  dis : ∀ (i j t u : Nat) (o p : OD) (a : Addr), ρ[i]? = some (some (B.own t o)) → ρ[j]? = some (some (B.own u p)) → σ[i]? = some (some (V.ref a)) → σ[j]? = some (some (V.ref a)) → i = j
  tab : TabsG T G H

/-- what a piece of code may have changed -/
structure Fr (ρ : Env) (σ : L2.St) (G H : Hp) (ρ' : Env) (σ' : L2.St) (G' H' : Hp) : Prop where
  gro : Same G G'
  keep : ∀ a o, H a = some o → NT o → ¬ OwnAt ρ σ a → H' a = some o ∧ G' a = G a ∧ ¬ OwnAt ρ' σ' a
  stay : ∀ a o, H a = some o → ∃ o', H' a = some o'
theorem Fr.refl {ρ : Env} {σ : L2.St} {G H : Hp} : Fr ρ σ G H ρ σ G H := ⟨Same.refl _, fun _ _ h _ n => ⟨h, rfl, n⟩, fun _ o h => ⟨o, h⟩⟩
theorem Fr.trans {ρ ρ1 ρ2 : Env} {σ σ1 σ2 : L2.St} {G G1 G2 H H1 H2 : Hp} (a : Fr ρ σ G H ρ1 σ1 G1 H1) (b : Fr ρ1 σ1 G1 H1 ρ2 σ2 G2 H2) : Fr ρ σ G H ρ2 σ2 G2 H2 :=
  ⟨a.gro.trans b.gro, fun c o h nt n => by
    obtain ⟨h1, g1, n1⟩ := a.keep c o h nt n
    obtain ⟨h2, g2, n2⟩ := b.keep c o h1 nt n1
    exact ⟨h2, g2.trans g1, n2⟩, fun c o h => by
    obtain ⟨o1, h1⟩ := a.stay c o h
    exact b.stay c o1 h1⟩
theorem Fr.free {ρ ρ' : Env} {σ σ' : L2.St} {G G' H H' : Hp} (f : Fr ρ σ G H ρ' σ' G' H') {a : Addr} (h : H' a = none) : H a = none := by
  cases e : H a with
  | none => rfl
  | some o =>
    obtain ⟨o', q⟩ := f.stay a o e
    rw [h] at q; cases q

/-- only new things, all of them frozen (or forgotten) -/
structure New (T : Tab) (G H G' H' : Hp) : Prop where
  gro : Same G G'
  kept : LamX.ExtN H H'
  stay : ∀ a o, H a = some o → ∃ o', H' a = some o'
  sub : Same G' H'
  old : ∀ a o, H a = some o → G' a = G a
  tab : TabsG T G H → TabsG T G' H'
theorem New.of {T : Tab} {G H G' H' : Hp} (gro : Same G G') (kept : Same H H') (sub : Same G' H') (old : ∀ a o, H a = some o → G' a = G a) (nt : ∀ a ps, G' a = some (.tbl ps) → G a = some (.tbl ps)) : New T G H G' H' :=
  ⟨gro, fun a o h _ => kept a o h, fun a o h => ⟨o, kept a o h⟩, sub, old, fun t => ⟨t.tb.ext fun a o h => kept a o h, fun a ps z => t.no a ps (nt a ps z)⟩⟩
theorem New.refl {T : Tab} {G H : Hp} (s : Same G H) : New T G H G H := New.of (Same.refl _) (Same.refl _) s (fun _ _ _ => rfl) (fun _ _ h => h)
theorem New.trans {T : Tab} {G H G1 H1 G2 H2 : Hp} (a : New T G H G1 H1) (b : New T G1 H1 G2 H2) : New T G H G2 H2 :=
  ⟨a.gro.trans b.gro, fun c o h n => b.kept c o (a.kept c o h n) n, fun c o h => (a.stay c o h).elim fun o1 h1 => b.stay c o1 h1, b.sub, fun c o h => (a.stay c o h).elim fun o1 h1 => (b.old c o1 h1).trans (a.old c o h), fun t => b.tab (a.tab t)⟩
theorem Same.upd {H : Hp} {p : Addr} {o : HO} (h : H p = none) : Same H (upd H p o) := fun b x e => by
  rw [upd_ne (ne_of_none e h)]; exact e
/-- one object, frozen at once -/
theorem New.one {T : Tab} {G H : Hp} {p : Addr} {o : HO} (s : Same G H) (h : H p = none) (nt : NT o := by first | exact nt_lst | exact nt_ins | (intro _ z; cases z)) : New T G H (upd G p o) (upd H p o) :=
  New.of (Same.upd (s.free h)) (Same.upd h) (fun b x e => by
    by_cases hb : b = p
    · subst hb; rw [upd_same] at e ⊢; exact e
    · rw [upd_ne hb] at e ⊢; exact s _ _ e) (fun a x e => upd_ne (ne_of_none e h)) (fun a ps z => by
    by_cases hb : a = p
    · subst hb; rw [upd_same] at z; exact absurd (Option.some.inj z) (nt ps)
    · rw [upd_ne hb] at z; exact z)
/-- one object, not frozen -/
theorem New.loose {T : Tab} {G H : Hp} {p : Addr} {o : HO} (s : Same G H) (h : H p = none) : New T G H G (L2.upd H p o) :=
  New.of (Same.refl _) (Same.upd h) (s.trans (Same.upd h)) (fun _ _ _ => rfl) (fun _ _ h => h)
theorem New.hole {T : Tab} {G H G' H' : Hp} (n : New T G H G' H') {a : Addr} {o : HO} (h : H a = some o) (g : G a = none) : G' a = none := by rw [n.old a o h]; exact g
theorem Ok.new {K : PySem.W.Frag} {T : Tab} {τ : Nat → Addr} {ρ : Env} {σ : L2.St} {G H G' H' : Hp} (k : Ok K T τ ρ σ G H) (n : New T G H G' H') : Ok K T τ ρ σ G' H' where
  sub := n.sub
  len := k.len
  val := fun i d e => let ⟨v, e1, r⟩ := k.val i d e; ⟨v, e1, r.mono n.gro⟩
  own := fun i t o e => by
    obtain ⟨a, e1, g, r, ht⟩ := k.own i t o e
    obtain ⟨u, hu⟩ := r.there
    exact ⟨a, e1, n.hole hu g, r.mono n.gro fun u e nt => n.kept _ _ e nt, ht⟩
  dis := k.dis
  tab := n.tab k.tab
theorem New.fr {T : Tab} {ρ : Env} {σ : L2.St} {G H G' H' : Hp} (n : New T G H G' H') : Fr ρ σ G H ρ σ G' H' := ⟨n.gro, fun a o h nt no => ⟨n.kept _ _ h nt, n.old a o h, no⟩, n.stay⟩

/-- an owned object becomes a value for ever -/
theorem Ok.freeze {K : PySem.W.Frag} {T : Tab} {τ : Nat → Addr} {ρ : Env} {σ : L2.St} {G H : Hp} {i t : Nat} {o : OD} (k : Ok K T τ ρ σ G H) (e : ρ[i]? = some (some (B.own t o))) :
    ∃ a G', σ[i]? = some (some (V.ref a)) ∧ Rz K T G' (.ref a) o.toD ∧ Ok K T τ (ρ.set i (some (B.val o.toD))) σ G' H ∧ Fr ρ σ G H (ρ.set i (some (B.val o.toD))) σ G' H := by
  obtain ⟨a, e1, g, r, ht⟩ := k.own i t o e
  obtain ⟨u, hu, nt⟩ := r.thereN
  have hi : i < ρ.length := (List.getElem?_eq_some_iff.mp e).1
  have sg : Same G (upd G a u) := Same.upd g
  have sh : Same (upd G a u) H := fun b x q => by
    by_cases hb : b = a
    · subst hb; rw [upd_same] at q; rw [hu]; exact q
    · rw [upd_ne hb] at q; exact k.sub _ _ q
  have rz : Rz K T (upd G a u) (.ref a) o.toD := by
    cases o with
    | lst ds =>
      obtain ⟨xs, q1, q2⟩ := r
      rw [hu] at q1; cases q1
      show Rz K T _ _ (.lst ds)
      rw [Rz]
      exact ⟨a, xs, rfl, upd_same, q2.mono sg⟩
    | ins c ds =>
      obtain ⟨dx, fs, q1, q2, q3⟩ := r
      rw [hu] at q1; cases q1
      show Rz K T _ _ (.ins c ds)
      rw [Rz]
      exact ⟨a, dx, fs, rfl, upd_same, q2, q3.mono sg⟩
    | dct ks ds =>
      obtain ⟨kvs, q1, q2, q3⟩ := r
      rw [hu] at q1; cases q1
      show Rz K T _ _ (.dct ks ds)
      rw [Rz]
      exact ⟨a, kvs, rfl, upd_same, q2, q3.mono sg⟩
  refine ⟨a, upd G a u, e1, rz, ⟨sh, by rw [List.length_set]; exact k.len, fun j d q => ?_, fun j t' o' q => ?_, fun j l t1 t2 o1 o2 b q1 q2 => ?_, k.tab.frz nt⟩, ⟨sg, fun b x hb nt no => ?_, fun b x hb => ⟨x, hb⟩⟩⟩
  · by_cases hj : i = j
    · subst hj
      rw [List.getElem?_set_self hi] at q
      cases q
      exact ⟨_, e1, rz⟩
    · rw [List.getElem?_set_ne hj] at q
      obtain ⟨v, q1, q2⟩ := k.val j d q
      exact ⟨v, q1, q2.mono sg⟩
  · by_cases hj : i = j
    · subst hj
      rw [List.getElem?_set_self hi] at q
      cases q
    · rw [List.getElem?_set_ne hj] at q
      obtain ⟨b, q1, q2, q3, q4⟩ := k.own j t' o' q
      have hb : b ≠ a := fun z => by
        subst z
        exact hj (k.dis i j _ _ _ _ b e q e1 q1)
      exact ⟨b, q1, by rw [upd_ne hb]; exact q2, q3.mono sg fun u h _ => h, q4⟩
  · have n1 : i ≠ j := fun z => by subst z; rw [List.getElem?_set_self hi] at q1; cases q1
    have n2 : i ≠ l := fun z => by subst z; rw [List.getElem?_set_self hi] at q2; cases q2
    rw [List.getElem?_set_ne n1] at q1
    rw [List.getElem?_set_ne n2] at q2
    exact k.dis j l _ _ _ _ b q1 q2
  · have hba : b ≠ a := fun z => by subst z; exact no ⟨i, t, o, e, e1⟩
    refine ⟨hb, upd_ne hba, fun ⟨j, t', o', q1, q2⟩ => ?_⟩
    have n1 : i ≠ j := fun z => by subst z; rw [List.getElem?_set_self hi] at q1; cases q1
    rw [List.getElem?_set_ne n1] at q1
    exact no ⟨j, t', o', q1, q2⟩
end Zd
end
section
/-! Zd 2: judgements; how pieces are joined. -/
namespace Zd
open PySem PySem.Spec PyProof.Rows L2
set_option autoImplicit false

/-- a value for ever, or an owned object as it stands now -/
def Rb (K : PySem.W.Frag) (T : Tab) (G H : Hp) (v : V) (d : D) : Prop := Rz K T G v d ∨ ∃ a o, v = .ref a ∧ d = o.toD ∧ RO K T G H a o
/-- an operand: a value, or a slot that is read when all operands are there -/
inductive Op where
  | v (d : D) | pl (i : Nat) | fr (o : OD)
def bVal : B → D
  | .val d => d
  | .own _ o => o.toD
def res (ρ : Env) : Op → Option D
  | .v d => some d
  | .fr o => some o.toD
  | .pl i => match ρ[i]? with
    | some (some b) => some (bVal b)
    | _ => none
def RpOp (K : PySem.W.Frag) (T : Tab) (ρ : Env) (σ : L2.St) (G H : Hp) (v : V) : Op → Prop
  | .v d => Rz K T G v d
  | .pl i => σ[i]? = some (some v)
  | .fr o => ∃ a, v = .ref a ∧ G a = none ∧ RO K T G H a o ∧ ¬ OwnAt ρ σ a
/-- a new object's address was free ahead -/
def FreshV (H : Hp) (v : V) (o : Op) : Prop := ∀ od, o = .fr od → ∃ a, v = .ref a ∧ H a = none
section
variable {K : PySem.W.Frag} {T : Tab} {τ : Nat → Addr} {ρ ρ' : Env} {σ : L2.St} {G G' H H' : Hp}
theorem RpOp.fr {v : V} {o : Op} (f : Fr ρ σ G H ρ' σ G' H') (h : RpOp K T ρ σ G H v o) : RpOp K T ρ' σ G' H' v o := by
  cases o with
  | v d => exact Rz.mono f.gro d h
  | pl i => exact h
  | fr o =>
    obtain ⟨a, e, g, r, n⟩ := h
    obtain ⟨u, hu, nt⟩ := r.thereN
    obtain ⟨h1, h2, h3⟩ := f.keep a u hu nt n
    refine ⟨a, e, h2.trans g, r.mono f.gro fun w hw _ => ?_, h3⟩
    rw [hu] at hw; cases hw
    exact h1
theorem Ok.slot (k : Ok K T τ ρ σ G H) {i : Nat} {b : B} {v : V} (e : ρ[i]? = some (some b)) (q : σ[i]? = some (some v)) : Rb K T G H v (bVal b) := by
  cases b with
  | val d =>
    obtain ⟨v', q1, r⟩ := k.val i d e
    rw [q] at q1; cases q1
    exact .inl r
  | own t o =>
    obtain ⟨a, q1, g, r, ht⟩ := k.own i t o e
    rw [q] at q1; cases q1
    exact .inr ⟨a, o, rfl, rfl, r⟩
theorem Ok.resolve (k : Ok K T τ ρ σ G H) {o : Op} {v : V} {d : D} (r : RpOp K T ρ σ G H v o) (e : res ρ o = some d) : Rb K T G H v d := by
  cases o with
  | fr o =>
    cases e
    obtain ⟨a, e, g, r, n⟩ := r
    exact .inr ⟨a, o, e, rfl, r⟩
  | v d' =>
    cases e
    exact .inl r
  | pl i =>
    simp only [res] at e
    split at e
    · rename_i b hb
      cases e
      exact k.slot hb r
    · cases e
end

/-! ### exceptions, outcomes -/
/-- an exception as the table tells it -/
def XOk (K : PySem.W.Frag) (T : Tab) (G H : Hp) (cls : Value) (dx : Option Addr) (x : Exc) : Prop :=
  cls = .ref (T.exc x.c) ∧ ∃ d fs, dx = some d ∧ H d = some (.xd fs) ∧ (T.xlay x.c).length = x.xs.length ∧
    ∀ (i : Nat) (n : Str) (e : D), (T.xlay x.c)[i]? = some n → x.xs[i]? = some e → ∃ v, fs.lookup n = some v ∧ Rz K T G v e
section
variable {K : PySem.W.Frag} {T : Tab} {W : WX} {τ : Nat → Addr} {ρ ρ' : Env} {σ σ' : L2.St} {G G' H H' : Hp} {α β : Type}
/-- what an outcome asks: Kk of the new abstract frame, the value and the heaps behind -/
def Out (K : PySem.W.Frag) (T : Tab) (W : WX) (τ : Nat → Addr) (ρ : Env) (σ : L2.St) (G H : Hp) (r : R (Env × α)) (Kk : Env → α → Hp → Hp → Prop) : Prop := match r with
  | .ok p => ∀ G' H', Ok K T τ p.1 σ G' H' → Fr ρ σ G H p.1 σ G' H' → Kk p.1 p.2 G' H'
  | .ex ρ' x => ∀ cls dx G' H', Ok K T τ ρ' σ G' H' → Fr ρ σ G H ρ' σ G' H' → XOk K T G' H' cls dx x → W cls dx σ H'
  | .bad => False
theorem Out.imp {r : R (Env × α)} {Kk Kk' : Env → α → Hp → Hp → Prop} (h : Out K T W τ ρ σ G H r Kk) (f : ∀ ρ' a G' H', Ok K T τ ρ' σ G' H' → Fr ρ σ G H ρ' σ G' H' → Kk ρ' a G' H' → Kk' ρ' a G' H') : Out K T W τ ρ σ G H r Kk' := by
  cases r with
  | ok p => exact fun G' H' k fr => f _ _ _ _ k fr (h G' H' k fr)
  | ex ρ' x => exact h
  | bad => exact h
theorem Out.shift {r : R (Env × α)} {Kk : Env → α → Hp → Hp → Prop} (fr : Fr ρ σ G H ρ' σ G' H') (h : Out K T W τ ρ σ G H r Kk) : Out K T W τ ρ' σ G' H' r Kk := by
  cases r with
  | ok p => exact fun G2 H2 k f2 => h G2 H2 k (fr.trans f2)
  | ex ρ2 x => exact fun cls dx G2 H2 k f2 => h cls dx G2 H2 k (fr.trans f2)
  | bad => exact h
theorem Out.bind {r : R (Env × α)} {f : Env × α → R (Env × β)} {Kk : Env → β → Hp → Hp → Prop} (h : Out K T W τ ρ σ G H (r.bind f) Kk) :
    Out K T W τ ρ σ G H r fun ρ1 a G1 H1 => Out K T W τ ρ1 σ G1 H1 (f (ρ1, a)) Kk := by
  cases r with
  | ok p => exact fun G1 H1 k fr => Out.shift fr h
  | ex ρ2 x => exact h
  | bad => exact h
/-- an end with nothing changed but new things -/
theorem Out.here {a : α} {Kk : Env → α → Hp → Hp → Prop} (h : Out K T W τ ρ σ G H (.ok (ρ, a)) Kk) (k : Ok K T τ ρ σ G H) (n : New T G H G' H') : Kk ρ a G' H' := h G' H' (k.new n) n.fr
end

abbrev DEn := Env → R (Env × D)
abbrev DOn := Env → R (Env × Op)
abbrev DAn := Env → R (Env × List Op)
abbrev DTn := Env → R (Env × Bool)
section
variable (K : PySem.W.Frag) (T : Tab) (W : WX)
def tE (d : DEn) : TE := fun σ H Q => ∃ τ ρ G, Ok K T τ ρ σ G H ∧ Out K T W τ ρ σ G H (d ρ) fun _ r G' H' => ∀ v, Rz K T G' v r → Q v H'
def tO (d : DOn) : TE := fun σ H Q => ∃ τ ρ G, Ok K T τ ρ σ G H ∧ Out K T W τ ρ σ G H (d ρ) fun ρ' r G' H' => ∀ v, RpOp K T ρ' σ G' H' v r → FreshV H v r → Q v H'
/-- new objects stand apart -/
def Apart (v : V) (o : Op) (vs : List V) (os : List Op) : Prop := ∀ od, o = .fr od → ∀ (j : Nat) (od' : OD), os[j]? = some (Op.fr od') → vs[j]? ≠ some v
def RpOps (ρ : Env) (σ : L2.St) (G H : Hp) : List V → List Op → Prop
  | [], [] => True
  | v :: vs, o :: os => RpOp K T ρ σ G H v o ∧ RpOps ρ σ G H vs os ∧ Apart v o vs os
  | _, _ => False
def FreshVs (H : Hp) (vs : List V) (os : List Op) : Prop := ∀ (j : Nat) (od : OD), os[j]? = some (Op.fr od) → ∃ a, vs[j]? = some (V.ref a) ∧ H a = none
def tA (d : DAn) : TA := fun σ H Q => ∃ τ ρ G, Ok K T τ ρ σ G H ∧ Out K T W τ ρ σ G H (d ρ) fun ρ' r G' H' => ∀ vs, RpOps K T ρ' σ G' H' vs r → FreshVs H vs r → Q vs H'
def tTn (d : DTn) : TT := fun σ H Q => ∃ τ ρ G, Ok K T τ ρ σ G H ∧ Out K T W τ ρ σ G H (d ρ) fun _ b _ H' => Q b H'
end
/-- THE JUDGEMENTS: an expression's value for ever; an operand; arguments; a test -/
def DE (X : Cx) (T : Tab) (W : WX) (e : Expr) (d : DEn) : Prop := PE X e (tE X.K T W d)
def DO (X : Cx) (T : Tab) (W : WX) (e : Expr) (d : DOn) : Prop := PE X e (tO X.K T W d)
def DA (X : Cx) (T : Tab) (W : WX) (es : List Expr) (d : DAn) : Prop := PA X es (tA X.K T W d)
def DT (X : Cx) (T : Tab) (W : WX) (e : Expr) (d : DTn) : Prop := PT X e (tTn X.K T W d)
def DW (X : Cx) (T : Tab) (W : WX) (e : Expr) (d : DTn) : Prop := PW X e (tTn X.K T W d)
theorem PE.imp {X : Cx} {e : Expr} {t t' : TE} (h : PE X e t) (i : ∀ σ H Q, t' σ H Q → t σ H Q) : PE X e t' := ⟨fun pins s σ H Q I q => h.run pins s σ H Q I (i _ _ _ q)⟩
theorem PT.imp {X : Cx} {e : Expr} {t t' : TT} (h : PT X e t) (i : ∀ σ H Q, t' σ H Q → t σ H Q) : PT X e t' := ⟨fun pins s σ H Q I q => h.run pins s σ H Q I (i _ _ _ q)⟩
theorem PW.imp {X : Cx} {e : Expr} {t t' : TT} (h : PW X e t) (i : ∀ σ H Q, t' σ H Q → t σ H Q) : PW X e t' := ⟨fun wh pins s σ H Q I q => h.run wh pins s σ H Q I (i _ _ _ q)⟩
theorem PA.imp {X : Cx} {es : List Expr} {t t' : TA} (h : PA X es t) (i : ∀ σ H Q, t' σ H Q → t σ H Q) : PA X es t' := ⟨fun pos pins s σ H Q I q => h.run pos pins s σ H Q I (i _ _ _ q)⟩
theorem PE.ors {X : Cx} {e : Expr} {ι : Sort _} {t : ι → TE} (h : ∀ i, PE X e (t i)) : PE X e (fun σ H Q => ∃ i, t i σ H Q) := ⟨fun pins s σ H Q I ⟨i, q⟩ => (h i).run pins s σ H Q I q⟩

section
variable {X : Cx} {T : Tab} {W : WX} {pos : Pos}
/-! ### operands and arguments -/
def oV (d : DEn) : DOn := fun ρ => (d ρ).bind fun p => .ok (p.1, .v p.2)
def oPl (i : Nat) : DOn := fun ρ => match ρ[i]? with
  | some (some _) => .ok (ρ, .pl i)
  | _ => .bad
theorem do_v {e : Expr} {d : DEn} (h : DE X T W e d) : DO X T W e (oV d) := by
  refine PE.imp h fun σ H Q q => ?_
  obtain ⟨τ, ρ, G, k, q⟩ := q
  refine ⟨τ, ρ, G, k, (Out.bind q).imp fun ρ' a G' H' k' fr h' v rz => ?_⟩
  exact h' G' H' k' Fr.refl v rz (fun _ z => nomatch z)
theorem do_pl {i : Nat} {x : Str} (h : PE X (.Name x pos) (tVar i)) : DO X T W (.Name x pos) (oPl i) := by
  refine PE.imp h fun σ H Q q => ?_
  obtain ⟨τ, ρ, G, k, q⟩ := q
  unfold oPl at q
  cases e : ρ[i]? with
  | none => rw [e] at q; exact q.elim
  | some b =>
    cases b with
    | none => rw [e] at q; exact q.elim
    | some b =>
      rw [e] at q
      have hv : ∃ v, σ[i]? = some (some v) := by
        cases b with
        | val d => obtain ⟨v, q1, _⟩ := k.val i d e; exact ⟨v, q1⟩
        | own t o => obtain ⟨a, q1, _⟩ := k.own i t o e; exact ⟨_, q1⟩
      obtain ⟨v, hv⟩ := hv
      exact ⟨v, hv, q G H k Fr.refl v hv (fun _ z => nomatch z)⟩
def aNil : DAn := fun ρ => .ok (ρ, [])
def aCons (o : DOn) (a : DAn) : DAn := fun ρ => (o ρ).bind fun p => (a p.1).bind fun q => .ok (q.1, p.2 :: q.2)
theorem da_nil : DA X T W [] aNil := by
  refine PA.imp pa_nil fun σ H Q q => ?_
  obtain ⟨τ, ρ, G, k, q⟩ := q
  exact q G H k Fr.refl [] True.intro (fun j od e => by simp at e)
theorem da_cons {e : Expr} {es : List Expr} {o : DOn} {a : DAn} (h : DO X T W e o) (r : DA X T W es a) (hs : starEach (e :: es) X.env = (false, eval e X.env) :: starEach es X.env := by rfl) : DA X T W (e :: es) (aCons o a) := by
  refine PA.imp (pa_cons h r hs) fun σ H Q q => ?_
  obtain ⟨τ, ρ, G, k, q⟩ := q
  refine ⟨τ, ρ, G, k, (Out.bind q).imp fun ρ1 op G1 H1 k1 fr1 q1 v rv fv => ?_⟩
  refine ⟨τ, ρ1, G1, k1, (Out.bind q1).imp fun ρ2 ops G2 H2 k2 fr2 q2 vs rvs fvs => ?_⟩
  refine q2 G2 H2 k2 Fr.refl (v :: vs) ⟨rv.fr fr2, rvs, fun od eo j od' ej => ?_⟩ fun j od ej => ?_
  · subst eo
    obtain ⟨b, e1, e2⟩ := fvs j od' ej
    obtain ⟨a, e3, g, r, n⟩ := rv
    obtain ⟨u, hu⟩ := r.there
    rw [e1, e3]
    intro z
    injection z with z
    injection z with z
    rw [z, hu] at e2; cases e2
  · cases j with
    | zero =>
      simp at ej
      obtain ⟨a, e1, e2⟩ := fv od ej
      exact ⟨a, by simp [e1], e2⟩
    | succ j =>
      rw [List.getElem?_cons_succ] at ej
      obtain ⟨a, e1, e2⟩ := fvs j od ej
      exact ⟨a, by rw [List.getElem?_cons_succ]; exact e1, fr1.free e2⟩
/-- all operands read -/
def resAll (ρ : Env) : List Op → Option (List D)
  | [] => some []
  | o :: os => match res ρ o, resAll ρ os with
    | some d, some ds => some (d :: ds)
    | _, _ => none
def RbL (K : PySem.W.Frag) (T : Tab) (G H : Hp) : List V → List D → Prop
  | [], [] => True
  | v :: vs, d :: ds => Rb K T G H v d ∧ RbL K T G H vs ds
  | _, _ => False
theorem Ok.resolveAll {K : PySem.W.Frag} {τ : Nat → Addr} {ρ : Env} {σ : L2.St} {G H : Hp} (k : Ok K T τ ρ σ G H) : ∀ {os : List Op} {vs : List V} {ds : List D}, RpOps K T ρ σ G H vs os → resAll ρ os = some ds → RbL K T G H vs ds
  | [], [], ds, _, e => by cases e; trivial
  | o :: os, v :: vs, ds, r, e => by
    unfold resAll at e
    split at e
    · rename_i d ds' h1 h2
      cases e
      exact ⟨k.resolve r.1 h1, Ok.resolveAll k r.2.1 h2⟩
    · cases e
  | [], _ :: _, _, r, _ => r.elim
  | _ :: _, [], _, r, _ => r.elim
/-! ### joining with the layer's rules: two operands; a call by values -/
/-- a rule by values does what f tells -/
def Snd2 (K : PySem.W.Frag) (T : Tab) (r : R2) (f : D → D → Option D) : Prop :=
  ∀ (x y : V) (a b d : D) (G H : Hp) (Q : VK), Same G H → Rb K T G H x a → Rb K T G H y b → f a b = some d → (∀ v G' H', New T G H G' H' → Rz K T G' v d → Q v H') → r x y H Q
def SndL (K : PySem.W.Frag) (T : Tab) (r : List V → Hp → VK → Prop) (f : List D → Option D) : Prop :=
  ∀ (vs : List V) (ds : List D) (d : D) (G H : Hp) (Q : VK), Same G H → RbL K T G H vs ds → f ds = some d → (∀ v G' H', New T G H G' H' → Rz K T G' v d → Q v H') → r vs H Q
def d2 (f : D → D → Option D) (a b : DOn) : DEn := fun ρ => (a ρ).bind fun p => (b p.1).bind fun q => match res q.1 p.2, res q.1 q.2 with
  | some x, some y => (ofO (f x y)).bind fun d => .ok (q.1, d)
  | _, _ => .bad
theorem tOp_of {r : R2} {f : D → D → Option D} {oa ob : DOn} (hs : Snd2 X.K T r f) (σ : L2.St) (H : Hp) (Q : VK) (q : tE X.K T W (d2 f oa ob) σ H Q) : tOp r (tO X.K T W oa) (tO X.K T W ob) σ H Q := by
  obtain ⟨τ, ρ, G, k, q⟩ := q
  refine ⟨τ, ρ, G, k, (Out.bind q).imp fun ρ1 op G1 H1 k1 fr1 q1 v rv fv => ?_⟩
  refine ⟨τ, ρ1, G1, k1, (Out.bind q1).imp fun ρ2 op2 G2 H2 k2 fr2 q2 y ry fy => ?_⟩
  dsimp only at q2
  split at q2
  · rename_i a b h1 h2
    cases h3 : f a b with
    | none => rw [h3] at q2; exact q2.elim
    | some d =>
      rw [h3] at q2
      exact hs v y a b d G2 H2 Q k2.sub (k2.resolve (rv.fr fr2) h1) (k2.resolve ry h2) h3 fun z G3 H3 n rz => q2 G3 H3 (k2.new n) n.fr z rz
  · exact q2.elim
theorem de_op {op : Operator} {r : R2} {f : D → D → Option D} {a b : Expr} {oa ob : DOn} (hs : Snd2 X.K T r f) (ho : OpR X (binaryOp op) r) (ha : DO X T W a oa) (hb : DO X T W b ob) : DE X T W (.BinOp a op b pos) (d2 f oa ob) :=
  PE.imp (pe_op ho ha hb) fun σ H Q q => tOp_of hs σ H Q q
theorem de_cmp {op : CmpOp} {r : R2} {f : D → D → Option D} {a b : Expr} {oa ob : DOn} (hs : Snd2 X.K T r f) (ho : OpR X (compareOp op) r) (ha : DO X T W a oa) (hb : DO X T W b ob) (hm : behindInMarks op b = false := by first | exact nomark _ | rfl) :
    DE X T W (.Compare a [op] [b] pos) (d2 f oa ob) := PE.imp (pe_cmpR ho ha hb hm) fun σ H Q q => tOp_of hs σ H Q q
def dBl (d : DEn) : DTn := fun ρ => (d ρ).bind fun p => match p.2 with
  | .bl b => .ok (p.1, b)
  | _ => .bad
theorem tTest_of {K : PySem.W.Frag} {d : DEn} {t : TE} (ht : ∀ σ H Q, tE K T W d σ H Q → t σ H Q) (σ : L2.St) (H : Hp) (Q : Bool → Hp → Prop) (q : tTn K T W (dBl d) σ H Q) : tTest t σ H Q := by
  obtain ⟨τ, ρ, G, k, q⟩ := q
  refine ht _ _ _ ⟨τ, ρ, G, k, (Out.bind q).imp fun ρ1 r G1 H1 k1 fr1 q1 v rv => ?_⟩
  cases r with
  | bl b =>
    have e : v = .bl b := by rw [Rz] at rv; exact rv
    exact ⟨b, e, q1 G1 H1 k1 Fr.refl⟩
  | _ => exact q1.elim
theorem dt_cmp {op : CmpOp} {r : R2} {f : D → D → Option D} {a b : Expr} {oa ob : DOn} (hs : Snd2 X.K T r f) (ho : OpR X (compareOp op) r) (ha : DO X T W a oa) (hb : DO X T W b ob) (hm : behindInMarks op b = false := by first | exact nomark _ | rfl) :
    DT X T W (.Compare a [op] [b] pos) (dBl (d2 f oa ob)) := PT.imp (pt_cmpR ho ha hb hm) fun σ H Q q => tTest_of (fun _ _ _ => tOp_of hs _ _ _) σ H Q q
/-- a built-in's call by values -/
def dL (f : List D → Option D) (a : DAn) : DEn := fun ρ => (a ρ).bind fun p => match resAll p.1 p.2 with
  | some ds => (ofO (f ds)).bind fun d => .ok (p.1, d)
  | none => .bad
theorem tCB_of {r : List V → Hp → VK → Prop} {f : List D → Option D} {a : DAn} (hs : SndL X.K T r f) (σ : L2.St) (H : Hp) (Q : VK) (q : tE X.K T W (dL f a) σ H Q) : tCB r (tA X.K T W a) σ H Q := by
  obtain ⟨τ, ρ, G, k, q⟩ := q
  refine ⟨τ, ρ, G, k, (Out.bind q).imp fun ρ1 ops G1 H1 k1 fr1 q1 vs rvs fvs => ?_⟩
  dsimp only at q1
  split at q1
  · rename_i ds h1
    cases h3 : f ds with
    | none => rw [h3] at q1; exact q1.elim
    | some d =>
      rw [h3] at q1
      exact hs vs ds d G1 H1 Q k1.sub (k1.resolveAll rvs h1) h3 fun z G3 H3 n rz => q1 G3 H3 (k1.new n) n.fr z rz
  · exact q1.elim
theorem de_callB {x : Str} {id : String} {r : List V → Hp → VK → Prop} {f : List D → Option D} {e : Expr} {es : List Expr} {a : DAn} {p : Pos} (hs : SndL X.K T r f) (hc : CallR X (.builtin id) r) (ha : DA X T W (e :: es) a) (hm : X.mg x = none)
    (hv : bootBuiltins x = some (.builtin id)) (hg : Gl X x := by rfl) (hn : x ≠ "__name__" := by decide) (hdb : (x == ("__debug__" : Str)) = false := by decide)
    (he : starEach (e :: es) X.env = (false, eval e X.env) :: starEach es X.env := by rfl) (hpl : (backTo pos (starEach es X.env)).any (·.1) = false := by rfl) : DE X T W (.Call (.Name x p) (e :: es) [] pos) (dL f a) :=
  PE.imp (pe_callB hc hg hm hv ha hn hdb he hpl) fun σ H Q q => tCB_of hs σ H Q q
theorem de_callTy {x : Str} {id : String} {r : List V → Hp → VK → Prop} {f : List D → Option D} {e : Expr} {es : List Expr} {a : DAn} {p : Pos} (hs : SndL X.K T r f) (hc : CallR X (.type id) r) (ha : DA X T W (e :: es) a) (hm : X.mg x = none)
    (hv : bootBuiltins x = some (.type id)) (hg : Gl X x := by rfl) (hn : x ≠ "__name__" := by decide) (hdb : (x == ("__debug__" : Str)) = false := by decide)
    (he : starEach (e :: es) X.env = (false, eval e X.env) :: starEach es X.env := by rfl) (hpl : (backTo pos (starEach es X.env)).any (·.1) = false := by rfl) : DE X T W (.Call (.Name x p) (e :: es) [] pos) (dL f a) :=
  PE.imp (pe_callTy hc hg hm hv ha hn hdb he hpl) fun σ H Q q => tCB_of hs σ H Q q
end
end Zd
end
section
/-! Zd 3: expressions. -/
namespace Zd
open PySem PySem.Spec PyProof.Rows L2
set_option autoImplicit false

/-- a size that no line forbids -/
def sz {α : Type} (n : Nat) (r : R α) : R α := if n ≤ 1000000 then r else .bad
theorem sz_ok {α : Type} {n : Nat} {r : R α} (h : n ≤ 1000000) : sz n r = r := if_pos h
theorem line_of {n : Nat} (h : n ≤ 1000000) : n ≤ sizeLine := by rw [sizeLine_eq]; omega

section
variable {K : PySem.W.Frag} {T : Tab} {G H : Hp} {v : V} {ds : List D}
theorem Rb.lst (s : Same G H) (h : Rb K T G H v (.lst ds)) : ∃ a xs, v = .ref a ∧ H a = some (.lst xs) ∧ RzL K T G xs ds := by
  rcases h with h | ⟨a, o, e1, e2, h⟩
  · rw [Rz] at h
    obtain ⟨a, xs, e1, e2, e3⟩ := h
    exact ⟨a, xs, e1, s _ _ e2, e3⟩
  · cases o with
    | lst es =>
      cases e2
      obtain ⟨xs, q1, q2⟩ := h
      exact ⟨a, xs, e1, q1, q2⟩
    | ins c es => cases e2
    | dct ks es => cases e2
theorem Rb.tup (s : Same G H) (h : Rb K T G H v (.tup ds)) : ∃ a xs, v = .ref a ∧ SqP K G a xs ∧ RzL K T G xs ds := by
  rcases h with h | ⟨a, o, e1, e2, h⟩
  · rw [Rz] at h; exact h
  · cases o <;> cases e2
theorem Rb.frz (s : Same G H) (h : Rb K T G H v (.frz ds)) : ∃ a xs, v = .ref a ∧ SqL K H a xs ∧ RzL K T G xs ds := by
  rcases h with h | ⟨a, o, e1, e2, h⟩
  · rw [Rz] at h
    obtain ⟨a, xs, e1, e2, e3⟩ := h
    exact ⟨a, xs, e1, s.seq e2, e3⟩
  · cases o <;> cases e2
theorem Rb.ins (s : Same G H) {c : Nat} (h : Rb K T G H v (.ins c ds)) : ∃ a dx fs, v = .ref a ∧ H a = some (.ins (T.cls c) dx fs) ∧ fs.map (·.1) = (T.lay c).take ds.length ∧ RzL K T G (fs.map (·.2)) ds := by
  rcases h with h | ⟨a, o, e1, e2, h⟩
  · rw [Rz] at h
    obtain ⟨a, dx, fs, e1, e2, e3, e4⟩ := h
    exact ⟨a, dx, fs, e1, s _ _ e2, e3, e4⟩
  · cases o with
    | ins c' es =>
      cases e2
      obtain ⟨dx, fs, q1, q2, q3⟩ := h
      exact ⟨a, dx, fs, e1, q1, q2, q3⟩
    | lst es => cases e2
    | dct ks es => cases e2
theorem Rb.dct (s : Same G H) {ks : List L2.Key} (h : Rb K T G H v (.dct ks ds)) : ∃ a kvs, v = .ref a ∧ H a = some (.dK kvs) ∧ kvs.map (·.1) = ks ∧ RzL K T G (kvs.map (·.2)) ds := by
  rcases h with h | ⟨a, o, e1, e2, h⟩
  · rw [Rz] at h
    obtain ⟨a, kvs, e1, e2, e3, e4⟩ := h
    exact ⟨a, kvs, e1, s _ _ e2, e3, e4⟩
  · cases o with
    | dct ks' es =>
      cases e2
      obtain ⟨kvs, q1, q2, q3⟩ := h
      exact ⟨a, kvs, e1, q1, q2, q3⟩
    | lst es => cases e2
    | ins c es => cases e2
theorem Rb.int {i : Int} (h : Rb K T G H v (.int i)) : v = .int i := by
  rcases h with h | ⟨a, o, e1, e2, h⟩
  · rw [Rz] at h; exact h
  · cases o <;> cases e2
theorem Rb.bl {i : Bool} (h : Rb K T G H v (.bl i)) : v = .bl i := by
  rcases h with h | ⟨a, o, e1, e2, h⟩
  · rw [Rz] at h; exact h
  · cases o <;> cases e2
theorem Rb.str {i : Str} (h : Rb K T G H v (.str i)) : v = .str i := by
  rcases h with h | ⟨a, o, e1, e2, h⟩
  · rw [Rz] at h; exact h
  · cases o <;> cases e2
theorem Rb.non (h : Rb K T G H v .non) : v = .non := by
  rcases h with h | ⟨a, o, e1, e2, h⟩
  · rw [Rz] at h; exact h
  · cases o <;> cases e2
theorem Rz.int_ {i : Int} : Rz K T G (.int i) (.int i) := by rw [Rz]
theorem Rz.bl_ {i : Bool} : Rz K T G (.bl i) (.bl i) := by rw [Rz]
theorem Rz.str_ {i : Str} : Rz K T G (.str i) (.str i) := by rw [Rz]
theorem Rz.non_ : Rz K T G .non .non := by rw [Rz]
theorem Rz.tup_ {a : Addr} {xs : List V} (h : SqP K G a xs) (r : RzL K T G xs ds) : Rz K T G (.ref a) (.tup ds) := by rw [Rz]; exact ⟨a, xs, rfl, h, r⟩
theorem Rz.lst_ {a : Addr} {xs : List V} (h : G a = some (.lst xs)) (r : RzL K T G xs ds) : Rz K T G (.ref a) (.lst ds) := by rw [Rz]; exact ⟨a, xs, rfl, h, r⟩
end

section
variable {X : Cx} {T : Tab} {W : WX} {pos : Pos}
/-! ### names, constants -/
def dName (i : Nat) : DEn := fun ρ => match ρ[i]? with
  | some (some (.val d)) => .ok (ρ, d)
  | some (some (.own _ o)) => .ok (ρ.set i (some (.val o.toD)), o.toD)
  | _ => .bad
theorem de_name {i : Nat} {x : Str} (h : PE X (.Name x pos) (tVar i)) : DE X T W (.Name x pos) (dName i) := by
  refine PE.imp h fun σ H Q q => ?_
  obtain ⟨τ, ρ, G, k, q⟩ := q
  unfold dName at q
  split at q
  · rename_i d e
    obtain ⟨v, q1, r⟩ := k.val i d e
    exact ⟨v, q1, q G H k Fr.refl v r⟩
  · rename_i t o e
    obtain ⟨a, G', q1, r, k', fr⟩ := k.freeze e
    exact ⟨_, q1, q G' H k' fr _ r⟩
  · exact q.elim
def dC (d : D) : DEn := fun ρ => .ok (ρ, d)
theorem de_const {e : Expr} {v : V} {d : D} (h : PE X e (tC v)) (r : ∀ G, Rz X.K T G v d) : DE X T W e (dC d) := by
  refine PE.imp h fun σ H Q q => ?_
  obtain ⟨τ, ρ, G, k, q⟩ := q
  exact q G H k Fr.refl v (r G)
theorem de_int {i : Int} {j} : DE X T W (.Constant (.int i) j pos) (dC (.int i)) := de_const pe_int fun _ => Rz.int_
theorem de_bl {b : Bool} {j} : DE X T W (.Constant (.bool b) j pos) (dC (.bl b)) := de_const pe_bl fun _ => Rz.bl_
theorem de_non {j} : DE X T W (.Constant .none j pos) (dC .non) := de_const pe_non fun _ => Rz.non_
theorem de_str {x : Str} {j} : DE X T W (.Constant (.str x) j pos) (dC (.str x)) := de_const pe_str fun _ => Rz.str_
theorem de_glob {x : Str} {v : V} {u : Value} {d : D} (hm : X.mg x = some u) (r : RelV v u) (rz : ∀ G, Rz X.K T G v d) (hg : Gl X x := by rfl) (hd : (x == ("__debug__" : Str)) = false := by decide) : DE X T W (.Name x pos) (dC d) :=
  de_const (pe_glob hg hm r hd) rz

/-! ### displays -/
def vals : List Op → Option (List D)
  | [] => some []
  | .v d :: os => (vals os).map (d :: ·)
  | .pl _ :: _ => none
  | .fr _ :: _ => none
theorem rz_vals {K : PySem.W.Frag} {ρ : Env} {σ : L2.St} {G H : Hp} : ∀ {os : List Op} {vs : List V} {ds : List D}, RpOps K T ρ σ G H vs os → vals os = some ds → RzL K T G vs ds
  | [], [], ds, _, e => by cases e; exact RzL.nil
  | .v d :: os, v :: vs, ds, r, e => by
    unfold vals at e
    cases h : vals os with
    | none => rw [h] at e; cases e
    | some es =>
      rw [h] at e; cases e
      exact RzL.cons r.1 (rz_vals r.2.1 h)
  | .pl i :: os, _ :: _, ds, _, e => by unfold vals at e; cases e
  | .fr o :: os, _ :: _, ds, _, e => by unfold vals at e; cases e
  | [], _ :: _, _, r, _ => r.elim
  | _ :: _, [], _, r, _ => r.elim
def dTup (a : DAn) : DEn := fun ρ => (a ρ).bind fun p => match vals p.2 with
  | some ds => sz ds.length (.ok (p.1, .tup ds))
  | none => .bad
theorem ep_tup {pins : List (Addr × Obj)} {σ : L2.St} {H : Hp} {s : Shared} {Q : VK} {its : List Value} {xs : List V} (I : Inv X pins σ H s) (r : Vals xs its) (hz : xs.length ≤ sizeLine) (q : ∀ p (o : Obj), H p = none → o.dict = none → Q (.ref p) (upd H p (.frz o (.tup xs)))) :
    EP X pins σ Q (.ref s.heap.objs.size) { s with heap := s.heap.push { cls := .type "tuple", data := .seq its.toArray } } :=
  ⟨.ref s.heap.objs.size, upd H s.heap.objs.size (.frz { cls := .type "tuple", data := .seq its.toArray } (.tup xs)), I.laid (t' := s.toks) (fun b u e => Heap.get?_push_of_some _ e) (Nat.le_refl _) ⟨Heap.get?_push_size _ rfl, hz, its, r, ⟨_, Heap.get?_push_size _ rfl, rfl, _, rfl⟩⟩, rfl, q _ _ (I.hok.fresh (Nat.le_refl _)) rfl⟩
/-- a new tuple: its object is known to bear no dict -/
def tTupP (t : TA) : TE := fun σ H Q => t σ H fun xs H1 => xs.length ≤ sizeLine ∧ ∀ p (o : Obj), H1 p = none → o.dict = none → Q (.ref p) (upd H1 p (.frz o (.tup xs)))
theorem pe_tupP {es : List Expr} {x1} {t : TA} (h : PA X es t) : PE X (.Tuple es x1 pos) (tTupP t) := by
  refine ⟨fun pins s σ H Q I hq => ?_⟩
  refine wpAny_Tuple_spliced (thn (h.run pos pins s σ H _ I hq) fun us s1 ⟨xs, H1, I1, r, z, q⟩ => ⟨by rw [← r.length]; exact z, ?_⟩)
  have hf : H1 s1.heap.objs.size = none := I1.hok.fresh (Nat.le_refl _)
  refine ⟨.ref s1.heap.objs.size, upd H1 s1.heap.objs.size (.frz { cls := .type "tuple", data := .seq us.toArray } (.tup xs)), I1.laid (t' := s1.toks) (fun b u e => Heap.get?_push_of_some _ e) (Nat.le_refl _) ?_, rfl, q _ _ hf rfl⟩
  exact ⟨Heap.get?_push_size _ rfl, z, us, r, ⟨_, Heap.get?_push_size _ rfl, rfl, _, rfl⟩⟩
theorem tTup_of {a : DAn} (σ : L2.St) (H : Hp) (Q : VK) (q : tE X.K T W (dTup a) σ H Q) : tTupP (tA X.K T W a) σ H Q := by
  obtain ⟨τ, ρ, G, k, q⟩ := q
  refine ⟨τ, ρ, G, k, (Out.bind q).imp fun ρ1 ops G1 H1 k1 fr1 q1 vs rvs fvs => ?_⟩
  dsimp only at q1
  split at q1
  · rename_i ds h1
    have rz := rz_vals rvs h1
    by_cases hz : ds.length ≤ 1000000
    · rw [sz_ok hz] at q1
      refine ⟨line_of (by rw [rz.len]; exact hz), fun p o hp ho => ?_⟩
      have n := New.one (T := T) (o := .frz o (.tup vs)) k1.sub hp
      exact q1 _ _ (k1.new n) n.fr _ (Rz.tup_ (.inl ⟨o, upd_same, ho⟩) (rz.mono n.gro))
    · unfold sz at q1; rw [if_neg hz] at q1; exact q1.elim
  · exact q1.elim
theorem de_tup {es : List Expr} {x1} {a : DAn} (h : DA X T W es a) : DE X T W (.Tuple es x1 pos) (dTup a) := PE.imp (pe_tupP h) fun σ H Q q => tTup_of σ H Q q
/-- a new list; F: what becomes of it (owned, or frozen at once) -/
def dLst (a : DAn) : DEn := fun ρ => (a ρ).bind fun p => match vals p.2 with
  | some ds => sz ds.length (.ok (p.1, .lst ds))
  | none => .bad
theorem de_lst {es : List Expr} {a : DAn} (h : DA X T W es a) : DE X T W (.List es pos) (dLst a) := by
  refine PE.imp (pe_lst h) fun σ H Q q => ?_
  obtain ⟨τ, ρ, G, k, q⟩ := q
  refine ⟨τ, ρ, G, k, (Out.bind q).imp fun ρ1 ops G1 H1 k1 fr1 q1 vs rvs fvs => ?_⟩
  dsimp only at q1
  split at q1
  · rename_i ds h1
    have rz := rz_vals rvs h1
    by_cases hz : ds.length ≤ 1000000
    · rw [sz_ok hz] at q1
      refine ⟨line_of (by rw [rz.len]; exact hz), fun p hp => ?_⟩
      have n := New.one (T := T) (o := .lst vs) k1.sub hp
      exact q1 _ _ (k1.new n) n.fr _ (Rz.lst_ upd_same (rz.mono n.gro))
    · unfold sz at q1; rw [if_neg hz] at q1; exact q1.elim
  · exact q1.elim
/-- *e -/
def seqOf : D → Option (List D)
  | .tup ds => some ds
  | .lst ds => some ds
  | .frz ds => some ds
  | _ => none
theorem Rb.seq {K : PySem.W.Frag} {G H : Hp} {v : V} {d : D} {ds : List D} (s : Same G H) (h : Rb K T G H v d) (e : seqOf d = some ds) : ∃ a xs, v = .ref a ∧ (SqT K H a xs ∨ SqL K H a xs) ∧ RzL K T G xs ds := by
  cases d with
  | tup es =>
    cases e
    obtain ⟨a, xs, e1, e2, e3⟩ := Rb.tup s h
    exact ⟨a, xs, e1, .inl (Same.tup s e2.t), e3⟩
  | lst es =>
    cases e
    obtain ⟨a, xs, e1, e2, e3⟩ := Rb.lst s h
    exact ⟨a, xs, e1, .inr (SqL.of e2), e3⟩
  | frz es =>
    cases e
    obtain ⟨a, xs, e1, e2, e3⟩ := Rb.frz s h
    exact ⟨a, xs, e1, .inr e2, e3⟩
  | _ => cases e
def aStar (o : DOn) (a : DAn) : DAn := fun ρ => (o ρ).bind fun p => match (res p.1 p.2).bind seqOf with
  | some ds => (a p.1).bind fun q => .ok (q.1, ds.map Op.v ++ q.2)
  | none => .bad
theorem ops_vals {K : PySem.W.Frag} {ρ : Env} {σ : L2.St} {G H : Hp} : ∀ {xs : List V} {ds : List D} {vs : List V} {os : List Op}, RzL K T G xs ds → RpOps K T ρ σ G H vs os → RpOps K T ρ σ G H (xs ++ vs) (ds.map Op.v ++ os)
  | xs, [], vs, os, h, r => by have := h.nil_inv; subst this; exact r
  | xs, d :: ds, vs, os, h, r => by
    obtain ⟨v, vr, rfl, h1, h2⟩ := h.cons_inv
    exact ⟨h1, ops_vals h2 r, fun _ z => nomatch z⟩
theorem da_star {e : Expr} {p : Pos} {es : List Expr} {o : DOn} {a : DAn} (h : DO X T W e o) (r : DA X T W es a) (hs : starEach (.Starred e p :: es) X.env = (true, eval e X.env) :: starEach es X.env := by rfl) : DA X T W (.Starred e p :: es) (aStar o a) := by
  refine PA.imp (StX.pa_star h r hs) fun σ H Q q => ?_
  obtain ⟨τ, ρ, G, k, q⟩ := q
  refine ⟨τ, ρ, G, k, (Out.bind q).imp fun ρ1 op G1 H1 k1 fr1 q1 v rv fv => ?_⟩
  dsimp only at q1
  split at q1
  · rename_i ds h1
    cases h2 : res ρ1 op with
    | none => rw [h2] at h1; cases h1
    | some d =>
      rw [h2] at h1
      obtain ⟨b, xs, e1, e2, e3⟩ := Rb.seq k1.sub (k1.resolve rv h2) h1
      refine ⟨b, xs, e1, e2, τ, ρ1, G1, k1, (Out.bind q1).imp fun ρ2 ops G2 H2 k2 fr2 q2 vs rvs fvs => ?_⟩
      refine q2 G2 H2 k2 Fr.refl (xs ++ vs) (ops_vals (e3.mono fr2.gro) rvs) fun j od ej => ?_
      have hl := e3.len
      by_cases hj : j < ds.length
      · rw [List.getElem?_append_left (by simpa using hj), List.getElem?_map] at ej
        cases e5 : ds[j]? with
        | none => rw [e5] at ej; cases ej
        | some d => rw [e5] at ej; cases ej
      · rw [List.getElem?_append_right (by simpa using hj), List.length_map] at ej
        obtain ⟨a, e5, e6⟩ := fvs _ od ej
        refine ⟨a, ?_, fr1.free e6⟩
        rw [List.getElem?_append_right (by omega), hl]
        exact e5
  · exact q1.elim

/-! ### and, or, not, if-else -/
def dAnd (a b : DEn) : DEn := fun ρ => (a ρ).bind fun p => match p.2 with
  | .bl true => b p.1
  | .bl false => .ok (p.1, .bl false)
  | _ => .bad
def dOr (a b : DEn) : DEn := fun ρ => (a ρ).bind fun p => match p.2 with
  | .bl false => b p.1
  | .bl true => .ok (p.1, .bl true)
  | _ => .bad
theorem de_one {op} {e : Expr} {d : DEn} (h : DE X T W e d) : DE X T W (.BoolOp op [e] pos) d := pe_one h
theorem de_and {a b : Expr} {rest : List Expr} {da db : DEn} (ha : DE X T W a da) (hb : DE X T W (.BoolOp .And (b :: rest) pos) db) : DE X T W (.BoolOp .And (a :: b :: rest) pos) (dAnd da db) := by
  refine PE.imp (pe_and ha hb) fun σ H Q q => ?_
  obtain ⟨τ, ρ, G, k, q⟩ := q
  refine ⟨τ, ρ, G, k, (Out.bind q).imp fun ρ1 r G1 H1 k1 fr1 q1 v rv => ?_⟩
  dsimp only at q1
  split at q1
  · exact ⟨true, Rb.bl (G := G1) (H := H1) (.inl rv), τ, ρ1, G1, k1, q1⟩
  · exact ⟨false, Rb.bl (G := G1) (H := H1) (.inl rv), q1 G1 H1 k1 Fr.refl _ Rz.bl_⟩
  · exact q1.elim
theorem de_or {a b : Expr} {rest : List Expr} {da db : DEn} (ha : DE X T W a da) (hb : DE X T W (.BoolOp .Or (b :: rest) pos) db) : DE X T W (.BoolOp .Or (a :: b :: rest) pos) (dOr da db) := by
  refine PE.imp (pe_or ha hb) fun σ H Q q => ?_
  obtain ⟨τ, ρ, G, k, q⟩ := q
  refine ⟨τ, ρ, G, k, (Out.bind q).imp fun ρ1 r G1 H1 k1 fr1 q1 v rv => ?_⟩
  dsimp only at q1
  split at q1
  · exact ⟨false, Rb.bl (G := G1) (H := H1) (.inl rv), τ, ρ1, G1, k1, q1⟩
  · exact ⟨true, Rb.bl (G := G1) (H := H1) (.inl rv), q1 G1 H1 k1 Fr.refl _ Rz.bl_⟩
  · exact q1.elim
def dNot (a : DTn) : DEn := fun ρ => (a ρ).bind fun p => .ok (p.1, .bl (!p.2))
def tAndD (a b : DTn) : DTn := fun ρ => (a ρ).bind fun p => if p.2 = true then b p.1 else .ok (p.1, false)
def tOrD (a b : DTn) : DTn := fun ρ => (a ρ).bind fun p => if p.2 = true then .ok (p.1, true) else b p.1
def tNotD (a : DTn) : DTn := fun ρ => (a ρ).bind fun p => .ok (p.1, !p.2)
theorem dw_and1 {a : Expr} {da : DTn} (h : DT X T W a da) : DW X T W (.BoolOp .And [a] pos) da := pw_and1 h
theorem dw_or1 {a : Expr} {da : DTn} (h : DT X T W a da) : DW X T W (.BoolOp .Or [a] pos) da := pw_or1 h
theorem dw_and {a b : Expr} {rest : List Expr} {da db : DTn} (ha : DT X T W a da) (hb : DW X T W (.BoolOp .And (b :: rest) pos) db) : DW X T W (.BoolOp .And (a :: b :: rest) pos) (tAndD da db) := by
  refine PW.imp (pw_and ha hb) fun σ H Q q => ?_
  obtain ⟨τ, ρ, G, k, q⟩ := q
  refine ⟨τ, ρ, G, k, (Out.bind q).imp fun ρ1 r G1 H1 k1 fr1 q1 => ?_⟩
  dsimp only at q1
  cases r with
  | true => rw [if_pos rfl] at q1 ⊢; exact ⟨τ, ρ1, G1, k1, q1⟩
  | false => rw [if_neg Bool.false_ne_true] at q1 ⊢; exact q1 G1 H1 k1 Fr.refl
theorem dw_or {a b : Expr} {rest : List Expr} {da db : DTn} (ha : DT X T W a da) (hb : DW X T W (.BoolOp .Or (b :: rest) pos) db) : DW X T W (.BoolOp .Or (a :: b :: rest) pos) (tOrD da db) := by
  refine PW.imp (pw_or ha hb) fun σ H Q q => ?_
  obtain ⟨τ, ρ, G, k, q⟩ := q
  refine ⟨τ, ρ, G, k, (Out.bind q).imp fun ρ1 r G1 H1 k1 fr1 q1 => ?_⟩
  dsimp only at q1
  cases r with
  | true => rw [if_pos rfl] at q1 ⊢; exact q1 G1 H1 k1 Fr.refl
  | false => rw [if_neg Bool.false_ne_true] at q1 ⊢; exact ⟨τ, ρ1, G1, k1, q1⟩
theorem dt_w {e : Expr} {d : DTn} (h : DW X T W e d) : DT X T W e d := PW.pt h
theorem dt_not {a : Expr} {da : DTn} (h : DT X T W a da) : DT X T W (.UnaryOp .Not a pos) (tNotD da) := by
  refine PT.imp (pt_not h) fun σ H Q q => ?_
  obtain ⟨τ, ρ, G, k, q⟩ := q
  exact ⟨τ, ρ, G, k, (Out.bind q).imp fun ρ1 r G1 H1 k1 fr1 q1 => q1 G1 H1 k1 Fr.refl⟩
/-- a bool's expression as a test -/
theorem dt_val {e : Expr} {d : DEn} (h : DE X T W e d) (he : ∀ whole, isTrue e X.env whole = (do let v ← whole; standAt e.pos; holding [v] (truthy v)) := by intro _; rfl) : DT X T W e (dBl d) := by
  refine PT.imp (pt_val h he) fun σ H Q q => ?_
  exact tTest_of (fun _ _ _ q => q) σ H Q q
/-- not e as a value, e a bool's expression -/
theorem de_not {a : Expr} {da : DEn} (h : DE X T W a da) : DE X T W (.UnaryOp .Not a pos) (dNot (dBl da)) := by
  refine PE.imp (pe_not h) fun σ H Q q => ?_
  obtain ⟨τ, ρ, G, k, q⟩ := q
  refine ⟨τ, ρ, G, k, (Out.bind (Out.bind q)).imp fun ρ1 r G1 H1 k1 fr1 q1 v rv => ?_⟩
  cases r with
  | bl b => exact ⟨b, Rb.bl (G := G1) (H := H1) (.inl rv), q1 G1 H1 k1 Fr.refl G1 H1 k1 Fr.refl _ Rz.bl_⟩
  | _ => exact q1.elim
def dIf (t : DTn) (a b : DEn) : DEn := fun ρ => (t ρ).bind fun p => if p.2 = true then a p.1 else b p.1
theorem de_if {c a b : Expr} {t : DTn} {da db : DEn} (hc : DT X T W c t) (ha : DE X T W a da) (hb : DE X T W b db) : DE X T W (.IfExp c a b pos) (dIf t da db) := by
  refine PE.imp (pe_ifExp hc ha hb) fun σ H Q q => ?_
  obtain ⟨τ, ρ, G, k, q⟩ := q
  refine ⟨τ, ρ, G, k, (Out.bind q).imp fun ρ1 r G1 H1 k1 fr1 q1 => ?_⟩
  dsimp only at q1
  cases r with
  | true => rw [if_pos rfl] at q1 ⊢; exact ⟨τ, ρ1, G1, k1, q1⟩
  | false => rw [if_neg Bool.false_ne_true] at q1 ⊢; exact ⟨τ, ρ1, G1, k1, q1⟩

/-! ### chains a < b < c -/
def d3 (f g : D → D → Option D) (a b c : DOn) : DEn := fun ρ => (a ρ).bind fun p => (b p.1).bind fun q => match res q.1 p.2, res q.1 q.2 with
  | some x, some y => (ofO (f x y)).bind fun d => match d with
    | .bl true => (c q.1).bind fun r => match res r.1 q.2, res r.1 r.2 with
      | some y', some z => (ofO (g y' z)).bind fun e => .ok (r.1, e)
      | _, _ => .bad
    | .bl false => .ok (q.1, .bl false)
    | _ => .bad
  | _, _ => .bad
/-- a rule that gives a bool and makes nothing -/
theorem tChain_of {r r' : R2} {f g : D → D → Option D} {oa ob oc : DOn} (hs : Snd2 X.K T r f) (hs' : Snd2 X.K T r' g) (σ : L2.St) (H : Hp) (Q : VK) (q : tE X.K T W (d3 f g oa ob oc) σ H Q) :
    tChain r r' (tO X.K T W oa) (tO X.K T W ob) (tO X.K T W oc) σ H Q := by
  obtain ⟨τ, ρ, G, k, q⟩ := q
  refine ⟨τ, ρ, G, k, (Out.bind q).imp fun ρ1 op G1 H1 k1 fr1 q1 v rv fv => ?_⟩
  refine ⟨τ, ρ1, G1, k1, (Out.bind q1).imp fun ρ2 op2 G2 H2 k2 fr2 q2 y ry fy => ?_⟩
  dsimp only at q2
  split at q2
  · rename_i a b h1 h2
    cases h3 : f a b with
    | none => rw [h3] at q2; exact q2.elim
    | some d =>
      rw [h3] at q2
      dsimp only [ofO_some, R.bind_ok] at q2
      refine hs v y a b d G2 H2 _ k2.sub (k2.resolve (rv.fr fr2) h1) (k2.resolve ry h2) h3 fun z G3 H3 n rz => ?_
      split at q2
      · refine ⟨true, Rb.bl (G := G3) (H := H3) (.inl rz), ?_⟩
        rw [if_pos rfl]
        refine ⟨τ, ρ2, G3, k2.new n, (Out.bind (Out.shift n.fr q2)).imp fun ρ4 op4 G4 H4 k4 fr4 q4 w rw' fw => ?_⟩
        dsimp only at q4
        split at q4
        · rename_i y' z' h5 h6
          cases h7 : g y' z' with
          | none => rw [h7] at q4; exact q4.elim
          | some e =>
            rw [h7] at q4
            exact hs' y w y' z' e G4 H4 Q k4.sub (k4.resolve (ry.fr (n.fr.trans fr4)) h5) (k4.resolve rw' h6) h7 fun u G5 H5 n5 ru => q4 G5 H5 (k4.new n5) n5.fr u ru
        · exact q4.elim
      · refine ⟨false, Rb.bl (G := G3) (H := H3) (.inl rz), ?_⟩
        rw [if_neg Bool.false_ne_true]
        exact q2 G3 H3 (k2.new n) n.fr _ Rz.bl_
      · exact q2.elim
  · exact q2.elim
theorem de_chain {op op' : CmpOp} {r r' : R2} {f g : D → D → Option D} {a b c : Expr} {oa ob oc : DOn} (hs : Snd2 X.K T r f) (ho : OpR X (compareOp op) r) (hs' : Snd2 X.K T r' g) (ho' : OpR X (compareOp op') r') (ha : DO X T W a oa) (hb : DO X T W b ob) (hc : DO X T W c oc)
    (hm : lastMarks [op, op'] [b, c] = false := by with_unfolding_all rfl) : DE X T W (.Compare a [op, op'] [b, c] pos) (d3 f g oa ob oc) := PE.imp (pe_chain ho ho' ha hb hc hm) fun σ H Q q => tChain_of hs hs' σ H Q q
theorem dt_chain {op op' : CmpOp} {r r' : R2} {f g : D → D → Option D} {a b c : Expr} {oa ob oc : DOn} (hs : Snd2 X.K T r f) (ho : OpR X (compareOp op) r) (hs' : Snd2 X.K T r' g) (ho' : OpR X (compareOp op') r') (ha : DO X T W a oa) (hb : DO X T W b ob) (hc : DO X T W c oc)
    (hm : lastMarks [op, op'] [b, c] = false := by with_unfolding_all rfl) : DT X T W (.Compare a [op, op'] [b, c] pos) (dBl (d3 f g oa ob oc)) := PT.imp (pt_chain ho ho' ha hb hc hm) fun σ H Q q => tTest_of (fun _ _ _ => tChain_of hs hs' _ _ _) σ H Q q
end
end Zd
end
section
/-! Zd 4: attributes, subscripts, slices, operators, comparisons. -/
namespace Zd
open PySem PySem.Spec PyProof.Rows L2
set_option autoImplicit false

section
variable {X : Cx} {T : Tab} {W : WX} {pos : Pos}
/-! ### o.f -/
def dFld (fp : Nat → Option Nat) (o : DOn) : DEn := fun ρ => (o ρ).bind fun p => match res p.1 p.2 with
  | some (.ins c xs) => (ofO ((fp c).bind fun i => xs[i]?)).bind fun d => .ok (p.1, d)
  | _ => .bad
/-- the attribute f stands where fp tells -/
def FldOk (K : PySem.W.Frag) (T : Tab) (f : Str) (fp : Nat → Option Nat) : Prop := ∀ c i, fp c = some i → Cls K (T.cls c) ∧ NoAttr K (T.cls c) f ∧ (T.lay c)[i]? = some f ∧ (T.lay c).Nodup
theorem lookup_at {f : Str} : ∀ {fs : List (Str × V)} {L : List Str} {i : Nat} {v : V}, fs.map (·.1) = L → L.Nodup → L[i]? = some f → (fs.map (·.2))[i]? = some v → fs.lookup f = some v
  | [], L, i, v, e, _, h, _ => by rw [← e] at h; simp at h
  | (n, x) :: fs, L, 0, v, e, nd, h, hv => by
    subst e
    simp at h hv
    subst h hv
    simp [List.lookup]
  | (n, x) :: fs, L, i + 1, v, e, nd, h, hv => by
    subst e
    rw [List.map_cons] at nd h hv
    rw [List.getElem?_cons_succ] at h hv
    have hne : ¬ f = n := fun z => (List.nodup_cons.mp nd).1 (by rw [← z]; exact List.mem_of_getElem? h)
    have hb : (f == n) = false := by simpa using hne
    rw [List.lookup, hb]
    exact lookup_at rfl (List.nodup_cons.mp nd).2 h hv
theorem lookup_lay {f : Str} {fs : List (Str × V)} {L : List Str} {n i : Nat} {v : V} (e : fs.map (·.1) = L.take n) (nd : L.Nodup) (h : L[i]? = some f) (hv : (fs.map (·.2))[i]? = some v) : fs.lookup f = some v := by
  refine lookup_at e (nd.sublist (List.take_sublist _ _)) ?_ hv
  have hi : i < fs.length := by
    have := (List.getElem?_eq_some_iff.mp hv).1
    simpa using this
  have hl := congrArg List.length e
  rw [List.length_map, List.length_take] at hl
  rw [List.getElem?_take_of_lt (by omega)]
  exact h
theorem de_fld {o : Expr} {f : Str} {fp : Nat → Option Nat} {oo : DOn} (hf : FldOk X.K T f fp) (h : DO X T W o oo) (hb : attributeBase o f X.env (eval o X.env) = eval o X.env := by rfl) : DE X T W (.Attribute o f pos) (dFld fp oo) := by
  refine PE.imp (pe_fld h hb) fun σ H Q q => ?_
  obtain ⟨τ, ρ, G, k, q⟩ := q
  refine ⟨τ, ρ, G, k, (Out.bind q).imp fun ρ1 op G1 H1 k1 fr1 q1 v rv fv => ?_⟩
  dsimp only at q1
  split at q1
  · rename_i c xs h1
    obtain ⟨a, dx, fs, e1, e2, e3, e4⟩ := Rb.ins k1.sub (k1.resolve rv h1)
    cases h2 : fp c with
    | none => rw [h2] at q1; exact q1.elim
    | some i =>
      rw [h2] at q1
      cases h3 : xs[i]? with
      | none => simp only [Option.bind_some, h3] at q1; exact q1.elim
      | some d =>
        simp only [Option.bind_some, h3, ofO_some, R.bind_ok] at q1
        obtain ⟨v', hv', rz⟩ := e4.get h3
        obtain ⟨f1, f2, f3, f4⟩ := hf c i h2
        exact ⟨a, T.cls c, dx, fs, v', e1, e2, f1, f2, lookup_lay e3 f4 f3 hv', q1 G1 H1 k1 Fr.refl v' rz⟩
  · exact q1.elim

/-! ### o[i] -/
def ixD : D → D → Option D
  | .tup ds, .int i => atI ds i
  | .lst ds, .int i => atI ds i
  | .frz ds, .int i => atI ds i
  | .str s, .int i => if s.length ≤ 1000000 then (atI s.cps.toList i).map fun c => .str ⟨#[c]⟩ else none
  | _, _ => none
theorem atI_rz {K : PySem.W.Frag} {G : Hp} {xs : List V} {ds : List D} {i : Int} {d : D} (r : RzL K T G xs ds) (h : atI ds i = some d) : ∃ v, atI xs i = some v ∧ Rz K T G v d := by
  unfold atI at h ⊢
  rw [r.len]
  cases e : ixN ds.length i with
  | none => rw [e] at h; cases h
  | some j =>
    rw [e] at h
    exact r.get h
theorem snd_ix {K : PySem.W.Frag} : Snd2 K T (rIx K) ixD := by
  intro x y a b d G H Q s ra rb e q
  unfold ixD at e
  split at e
  · obtain ⟨p, xs, rfl, e2, e3⟩ := Rb.tup s ra
    obtain ⟨v, h1, h2⟩ := atI_rz e3 e
    exact .inr (.inl ⟨p, xs, _, v, rfl, rb.int, Same.tup s e2.t, h1, q v G H (New.refl s) h2⟩)
  · obtain ⟨p, xs, rfl, e2, e3⟩ := Rb.lst s ra
    obtain ⟨v, h1, h2⟩ := atI_rz e3 e
    exact .inl ⟨p, xs, _, v, rfl, rb.int, SqL.of e2, h1, q v G H (New.refl s) h2⟩
  · obtain ⟨p, xs, rfl, e2, e3⟩ := Rb.frz s ra
    obtain ⟨v, h1, h2⟩ := atI_rz e3 e
    exact .inl ⟨p, xs, _, v, rfl, rb.int, e2, h1, q v G H (New.refl s) h2⟩
  · split at e
    · rename_i z i hz
      obtain ⟨c, hc, rfl⟩ := Option.map_eq_some_iff.mp e
      exact .inr (.inr ⟨z, i, c, ra.str, rb.int, line_of hz, hc, q _ G H (New.refl s) Rz.str_⟩)
    · cases e
  · cases e
theorem de_ix {o i : Expr} {oo oi : DOn} (h : DO X T W o oo) (hi : DO X T W i oi) (hs : PlainIx i := by exact fun _ _ => rfl) : DE X T W (.Subscript o i pos) (d2 ixD oo oi) :=
  PE.imp (pe_ix ix_seq h hi hs) fun σ H Q q => tOp_of snd_ix σ H Q q

/-! ### o[lo:hi] -/
abbrev DPn := Env → R (Env × Option Int)
def tP (K : PySem.W.Frag) (T : Tab) (W : WX) (d : DPn) : TO := fun σ H Q => ∃ τ ρ G, Ok K T τ ρ σ G H ∧ Out K T W τ ρ σ G H (d ρ) fun _ r _ H' => Q r H'
def DP (X : Cx) (T : Tab) (W : WX) (e : Option Expr) (d : DPn) : Prop := PO X e (tP X.K T W d)
theorem PO.imp {e : Option Expr} {t t' : TO} (h : PO X e t) (i : ∀ σ H Q, t' σ H Q → t σ H Q) : PO X e t' := ⟨fun pins s σ H Q I q => h.run pins s σ H Q I (i _ _ _ q)⟩
def pNo : DPn := fun ρ => .ok (ρ, none)
def pSome (d : DEn) : DPn := fun ρ => (d ρ).bind fun p => match p.2 with
  | .int i => .ok (p.1, some i)
  | _ => .bad
theorem dp_none : DP X T W none pNo := PO.imp po_none fun σ H Q ⟨τ, ρ, G, k, q⟩ => q G H k Fr.refl
theorem dp_some {e : Expr} {d : DEn} (h : DE X T W e d) : DP X T W (some e) (pSome d) := by
  refine PO.imp (po_some h) fun σ H Q q => ?_
  obtain ⟨τ, ρ, G, k, q⟩ := q
  refine ⟨τ, ρ, G, k, (Out.bind q).imp fun ρ1 r G1 H1 k1 fr1 q1 v rv => ?_⟩
  cases r with
  | int i => exact ⟨i, Rb.int (G := G1) (H := H1) (.inl rv), q1 G1 H1 k1 Fr.refl⟩
  | _ => exact q1.elim
def cut {α : Type} (xs : List α) (lo hi : Option Int) : List α := (xs.drop (HT.sIx xs.length 0 lo)).take (HT.sIx xs.length xs.length hi - HT.sIx xs.length 0 lo)
def cutD : D → Option Int → Option Int → Option D
  | .tup ds, lo, hi => some (.tup (cut ds lo hi))
  | .lst ds, lo, hi => some (.lst (cut ds lo hi))
  | .frz ds, lo, hi => some (.lst (cut ds lo hi))
  | _, _, _ => none
def dSl (o : DOn) (lo hi : DPn) : DEn := fun ρ => (o ρ).bind fun p => (lo p.1).bind fun q => (hi q.1).bind fun r => match res r.1 p.2 with
  | some d => (ofO (cutD d q.2 r.2)).bind fun e => .ok (r.1, e)
  | none => .bad
theorem cut_whole {α : Type} {xs : List α} {lo hi : Option Int} (h : HT.sIx xs.length 0 lo = 0 ∧ HT.sIx xs.length xs.length hi = xs.length) : cut xs lo hi = xs := by
  unfold cut
  rw [h.1, h.2]
  simp
theorem RzL.cut {K : PySem.W.Frag} {G : Hp} {xs : List V} {ds : List D} (r : RzL K T G xs ds) (lo hi : Option Int) : RzL K T G (cutV xs lo hi) (Zd.cut ds lo hi) := by
  unfold cutV Zd.cut
  rw [r.len]
  exact (r.drop _).take _
def rSlP (K : PySem.W.Frag) : V → Option Int → Option Int → Hp → VK → Prop := fun x lo hi H Q => ∃ a xs, x = .ref a ∧ SqT K H a xs ∧
  (HT.sIx xs.length 0 lo = 0 ∧ HT.sIx xs.length xs.length hi = xs.length → Q (.ref a) H) ∧ (¬ (HT.sIx xs.length 0 lo = 0 ∧ HT.sIx xs.length xs.length hi = xs.length) → ∀ p (o : Obj), H p = none → o.dict = none → Q (.ref p) (upd H p (.frz o (.tup (cutV xs lo hi)))))
theorem sl_tupP : SlR X (rSlP X.K) := by
  intro pins s σ H x v vl vu lo hi sl Q I rx hs pl pu h
  obtain ⟨a, xs, rfl, hx, q1, q2⟩ := h
  cases rx
  obtain ⟨its, r, ht, hz⟩ := I.tuple hx
  have hlen : its.toArray.size = xs.length := by rw [List.size_toArray]; exact r.length.symm
  by_cases hw : HT.sIx xs.length 0 lo = 0 ∧ HT.sIx xs.length xs.length hi = xs.length
  · refine ⟨"tuple", _, PyProof.Rows.slot_tuple_getitem.lookup, ht.typeIs, ?_⟩
    exact getItem_tuple_whole ht hs pl pu (by rw [hlen]; exact hw) ⟨.ref a, H, I, rfl, q1 hw⟩
  · refine ⟨"tuple", _, PyProof.Rows.slot_tuple_getitem.lookup, ht.typeIs, ?_⟩
    refine HT.getItem_tuple_cut ht hs pl pu (by rw [hlen]; exact hw) ?_ (by rw [hlen]; exact hz)
    rw [hlen]
    exact ep_tup I ((r.drop (HT.sIx xs.length 0 lo)).take (HT.sIx xs.length xs.length hi - HT.sIx xs.length 0 lo)) (Nat.le_trans (cutV_length xs lo hi) hz) (q2 hw)
theorem de_slice {o : Expr} {lo hi : Option Expr} {oo : DOn} {dl dh : DPn} {p2 : Pos} (h : DO X T W o oo) (hl : DP X T W lo dl) (hh : DP X T W hi dh) : DE X T W (.Subscript o (.Slice lo hi none p2) pos) (dSl oo dl dh) := by
  refine PE.imp (pe_slice (sl_tupP.or sl_list) h hl hh) fun σ H Q q => ?_
  obtain ⟨τ, ρ, G, k, q⟩ := q
  refine ⟨τ, ρ, G, k, (Out.bind q).imp fun ρ1 op G1 H1 k1 fr1 q1 v rv fv => ?_⟩
  refine ⟨τ, ρ1, G1, k1, (Out.bind q1).imp fun ρ2 l G2 H2 k2 fr2 q2 => ?_⟩
  refine ⟨τ, ρ2, G2, k2, (Out.bind q2).imp fun ρ3 u G3 H3 k3 fr3 q3 => ?_⟩
  dsimp only at q3
  split at q3
  · rename_i d h1
    have rb := k3.resolve (rv.fr (fr2.trans fr3)) h1
    cases d with
    | tup ds =>
      obtain ⟨a, xs, rfl, e2, e3⟩ := Rb.tup k3.sub rb
      refine .inl ⟨a, xs, rfl, Same.tup k3.sub e2.t, fun hw => ?_, fun hw p o hp ho => ?_⟩
      · rw [e3.len] at hw
        have e : cut ds l u = ds := cut_whole hw
        have q4 : Out X.K T W τ ρ3 σ G3 H3 (R.ok (ρ3, D.tup (cut ds l u))) _ := q3
        rw [e] at q4
        exact q4 G3 H3 k3 Fr.refl _ (Rz.tup_ e2 e3)
      · have n := New.one (T := T) (o := .frz o (.tup (cutV xs l u))) k3.sub hp
        exact q3 _ _ (k3.new n) n.fr _ (Rz.tup_ (.inl ⟨o, upd_same, ho⟩) ((e3.cut l u).mono n.gro))
    | lst ds =>
      obtain ⟨a, xs, rfl, e2, e3⟩ := Rb.lst k3.sub rb
      refine .inr ⟨a, xs, rfl, SqL.of e2, fun p hp => ?_⟩
      have n := New.one (T := T) (o := .lst (cutV xs l u)) k3.sub hp
      exact q3 _ _ (k3.new n) n.fr _ (Rz.lst_ upd_same ((e3.cut l u).mono n.gro))
    | frz ds =>
      obtain ⟨a, xs, rfl, e2, e3⟩ := Rb.frz k3.sub rb
      refine .inr ⟨a, xs, rfl, e2, fun p hp => ?_⟩
      have n := New.one (T := T) (o := .lst (cutV xs l u)) k3.sub hp
      exact q3 _ _ (k3.new n) n.fr _ (Rz.lst_ upd_same ((e3.cut l u).mono n.gro))
    | _ => exact q3.elim
  · exact q3.elim

/-! ### arithmetic -/
def addD : D → D → Option D
  | .int i, .int j => some (.int (i + j))
  | .str s, .str t => if s.length + t.length ≤ 1000000 then some (.str (s ++ t)) else none
  | .tup ds, .tup es => if ds.length + es.length ≤ 1000000 then some (.tup (ds ++ es)) else none
  | .lst ds, .lst es => if ds.length + es.length ≤ 1000000 then some (.lst (ds ++ es)) else none
  | _, _ => none
def rCatP (K : PySem.W.Frag) : R2 := fun x y H Q => ∃ a b xs ys, x = .ref a ∧ y = .ref b ∧ SqT K H a xs ∧ SqT K H b ys ∧ xs.length + ys.length ≤ sizeLine ∧
  (xs = [] → Q (.ref b) H) ∧ (xs ≠ [] → ys = [] → Q (.ref a) H) ∧ (xs ≠ [] → ys ≠ [] → ∀ p (o : Obj), H p = none → o.dict = none → Q (.ref p) (upd H p (.frz o (.tup (xs ++ ys)))))
theorem op_catP : OpR X (binaryOp .Add) (rCatP X.K) := by
  intro pins s σ H x y v u Q I rx ry h
  obtain ⟨a, b, xs, ys, rfl, rfl, ha, hb, hz, q0, q1, q2⟩ := h
  cases rx
  cases ry
  obtain ⟨its, r1, p1, _⟩ := I.tuple ha
  obtain ⟨its2, r2, p2, _⟩ := I.tuple hb
  by_cases hx : xs = []
  · subst hx
    cases r1
    exact cat_tup0 p1 p2 ⟨.ref b, H, I, rfl, q0 rfl⟩
  · refine HT.cat_tup p1 p2 (fun z => hx (r1.nil_iff.mp z)) (fun z => ⟨.ref a, H, I, rfl, q1 hx (r2.nil_iff.mp z)⟩) (fun z => ?_) (by rw [← r1.length, ← r2.length]; exact hz)
    exact ep_tup I (r1.append r2) (by rw [List.length_append]; exact hz) (q2 hx (fun w => z (r2.nil_iff.mpr w)))
def rAddA (K : PySem.W.Frag) : R2 := fun x y H Q => rI0 (fun i j => .int (i + j)) x y H Q ∨ (∃ i j, x = .str i ∧ y = .str j ∧ i.length + j.length ≤ sizeLine ∧ Q (.str (i ++ j)) H) ∨ rCatP K x y H Q ∨ rCat x y H Q
theorem op_addA : OpR X (binaryOp .Add) (rAddA X.K) := op_add.or (op_add_str.or (op_catP.or op_cat))
theorem snd_add {K : PySem.W.Frag} : Snd2 K T (rAddA K) addD := by
  intro x y a b d G H Q s ra rb e q
  unfold addD at e
  split at e
  · cases e
    exact .inl ⟨_, _, ra.int, rb.int, q _ G H (New.refl s) Rz.int_⟩
  · split at e
    · rename_i hz
      cases e
      exact .inr (.inl ⟨_, _, ra.str, rb.str, line_of hz, q _ G H (New.refl s) Rz.str_⟩)
    · cases e
  · split at e
    · rename_i ds es hz
      cases e
      obtain ⟨p, xs, rfl, e2, e3⟩ := Rb.tup s ra
      obtain ⟨r, ys, rfl, f2, f3⟩ := Rb.tup s rb
      refine .inr (.inr (.inl ⟨p, r, xs, ys, rfl, rfl, Same.tup s e2.t, Same.tup s f2.t, line_of (by rw [e3.len, f3.len]; exact hz), fun z => ?_, fun z1 z2 => ?_, fun _ _ p o hp ho => ?_⟩))
      · subst z
        have : ds = [] := by have := e3.len; simpa using this.symm
        subst this
        exact q _ G H (New.refl s) (Rz.tup_ f2 f3)
      · subst z2
        have : es = [] := by have := f3.len; simpa using this.symm
        subst this
        rw [List.append_nil] at q
        exact q _ G H (New.refl s) (Rz.tup_ e2 e3)
      · have n := New.one (T := T) (o := .frz o (.tup (xs ++ ys))) s hp
        exact q _ _ _ n (Rz.tup_ (.inl ⟨o, upd_same, ho⟩) ((e3.append f3).mono n.gro))
    · cases e
  · split at e
    · rename_i ds es hz
      cases e
      obtain ⟨p, xs, rfl, e2, e3⟩ := Rb.lst s ra
      obtain ⟨r, ys, rfl, f2, f3⟩ := Rb.lst s rb
      refine .inr (.inr (.inr ⟨p, r, xs, ys, rfl, rfl, e2, f2, line_of (by rw [e3.len, f3.len]; exact hz), fun p hp => ?_⟩))
      have n := New.one (T := T) (o := .lst (xs ++ ys)) s hp
      exact q _ _ _ n (Rz.lst_ upd_same ((e3.append f3).mono n.gro))
    · cases e
  · cases e
theorem de_add {a b : Expr} {oa ob : DOn} (ha : DO X T W a oa) (hb : DO X T W b ob) : DE X T W (.BinOp a .Add b pos) (d2 addD oa ob) := de_op snd_add op_addA ha hb
/-- two ints -/
def iD (c : Int → Int → Bool) (f : Int → Int → D) : D → D → Option D
  | .int i, .int j => if c i j = true then some (f i j) else none
  | _, _ => none
theorem snd_rI {K : PySem.W.Frag} {C : Int → Int → Prop} {c : Int → Int → Bool} {g : Int → Int → V} {f : Int → Int → D} (hc : ∀ i j, c i j = true → C i j) (hz : ∀ i j G, Rz K T G (g i j) (f i j)) : Snd2 K T (rI C g) (iD c f) := by
  intro x y a b d G H Q s ra rb e q
  unfold iD at e
  split at e
  · split at e
    · rename_i h
      cases e
      exact ⟨_, _, ra.int, rb.int, hc _ _ h, q _ G H (New.refl s) (hz _ _ _)⟩
    · cases e
  · cases e
def i0D (f : Int → Int → D) : D → D → Option D
  | .int i, .int j => some (f i j)
  | _, _ => none
theorem snd_rI0 {K : PySem.W.Frag} {g : Int → Int → V} {f : Int → Int → D} (hz : ∀ i j G, Rz K T G (g i j) (f i j)) : Snd2 K T (rI0 g) (i0D f) := by
  intro x y a b d G H Q s ra rb e q
  unfold i0D at e
  split at e
  · cases e
    exact ⟨_, _, ra.int, rb.int, q _ G H (New.refl s) (hz _ _ _)⟩
  · cases e
theorem de_sub {a b : Expr} {oa ob : DOn} (ha : DO X T W a oa) (hb : DO X T W b ob) : DE X T W (.BinOp a .Sub b pos) (d2 (i0D fun i j => .int (i - j)) oa ob) := de_op (snd_rI0 fun _ _ _ => Rz.int_) op_sub ha hb
/-- // : the divisor above 0, of any size below 2 ^ 9000 -/
def fdivD : D → D → Option D := iD (fun _ j => decide (0 < j) && decide (j.natAbs.log2 < 9000)) fun i j => .int (i / j)
theorem de_fdiv {a b : Expr} {oa ob : DOn} (ha : DO X T W a oa) (hb : DO X T W b ob) : DE X T W (.BinOp a .FloorDiv b pos) (d2 fdivD oa ob) :=
  de_op (snd_rI (fun i j h => by simpa [Bool.and_eq_true, CDivW] using h) fun _ _ _ => Rz.int_) op_fdivW ha hb
def modD : D → D → Option D := iD (fun _ j => decide (0 < j)) fun i j => .int (i % j)
theorem de_mod {a b : Expr} {oa ob : DOn} (ha : DO X T W a oa) (hb : DO X T W b ob) : DE X T W (.BinOp a .Mod b pos) (d2 modD oa ob) :=
  de_op (snd_rI (fun i j h => by simpa using h) fun _ _ _ => Rz.int_) op_mod ha hb
def powD : D → D → Option D := iD (fun i j => decide (0 ≤ j) && (decide (j ≤ 1000000) && decide (i.natAbs < 2 ^ 64))) fun i j => .int (i ^ j.toNat)
theorem de_pow {a b : Expr} {oa ob : DOn} (ha : DO X T W a oa) (hb : DO X T W b ob) : DE X T W (.BinOp a .Pow b pos) (d2 powD oa ob) :=
  de_op (snd_rI (fun i j h => by simpa [Bool.and_eq_true, CPow] using h) fun _ _ _ => Rz.int_) op_pow ha hb
def small64 (i : Int) : Bool := decide (-(2 ^ 64) < i) && decide (i < 2 ^ 64)
def mulI : D → D → Option D := iD (fun i j => small64 i || small64 j) fun i j => .int (i * j)
theorem snd_mulI {K : PySem.W.Frag} : Snd2 K T (rI CMul fun i j => .int (i * j)) mulI := snd_rI (fun i j h => by simpa [small64, CMul, Bool.or_eq_true, Bool.and_eq_true] using h) fun _ _ _ => Rz.int_
theorem de_mulI {a b : Expr} {oa ob : DOn} (ha : DO X T W a oa) (hb : DO X T W b ob) : DE X T W (.BinOp a .Mult b pos) (d2 mulI oa ob) := de_op snd_mulI op_mul ha hb
/-- -e -/
def dNeg (o : DOn) : DEn := fun ρ => (o ρ).bind fun p => match res p.1 p.2 with
  | some (.int i) => .ok (p.1, .int (-i))
  | _ => .bad
theorem de_neg {a : Expr} {oa : DOn} (ha : DO X T W a oa) : DE X T W (.UnaryOp .USub a pos) (dNeg oa) := by
  refine PE.imp (pe_un un_neg ha) fun σ H Q q => ?_
  obtain ⟨τ, ρ, G, k, q⟩ := q
  refine ⟨τ, ρ, G, k, (Out.bind q).imp fun ρ1 op G1 H1 k1 fr1 q1 v rv fv => ?_⟩
  dsimp only at q1
  split at q1
  · rename_i i h1
    exact ⟨i, Rb.int (k1.resolve rv h1), q1 G1 H1 k1 Fr.refl _ Rz.int_⟩
  · exact q1.elim

/-! ### comparisons -/
theorem de_lt {a b : Expr} {oa ob : DOn} (ha : DO X T W a oa) (hb : DO X T W b ob) : DE X T W (.Compare a [.Lt] [b] pos) (d2 (i0D fun i j => .bl (decide (i < j))) oa ob) := de_cmp (snd_rI0 fun _ _ _ => Rz.bl_) op_lt ha hb
abbrev ltD : D → D → Option D := i0D fun i j => .bl (decide (i < j))
abbrev leD : D → D → Option D := i0D fun i j => .bl (decide (i ≤ j))
abbrev gtD : D → D → Option D := i0D fun i j => .bl (decide (j < i))
abbrev geD : D → D → Option D := i0D fun i j => .bl (decide (j ≤ i))
theorem s_lt {K : PySem.W.Frag} : Snd2 K T (rI0 fun i j => .bl (decide (i < j))) ltD := snd_rI0 fun _ _ _ => Rz.bl_
theorem s_le {K : PySem.W.Frag} : Snd2 K T (rI0 fun i j => .bl (decide (i ≤ j))) leD := snd_rI0 fun _ _ _ => Rz.bl_
theorem s_gt {K : PySem.W.Frag} : Snd2 K T (rI0 fun i j => .bl (decide (j < i))) gtD := snd_rI0 fun _ _ _ => Rz.bl_
theorem s_ge {K : PySem.W.Frag} : Snd2 K T (rI0 fun i j => .bl (decide (j ≤ i))) geD := snd_rI0 fun _ _ _ => Rz.bl_
/-- is None -/
def isND : D → D → Option D
  | .non, .non => some (.bl true)
  | .ins _ _, .non => some (.bl false)
  | .bl _, .non => some (.bl false)
  | .int _, .non => some (.bl false)
  | .str _, .non => some (.bl false)
  | .tup _, .non => some (.bl false)
  | .lst _, .non => some (.bl false)
  | _, _ => none
def notND (a b : D) : Option D := match isND a b with
  | some (.bl k) => some (.bl (!k))
  | _ => none
theorem isN_v {K : PySem.W.Frag} {G H : Hp} {x : V} {a b d : D} (s : Same G H) (ra : Rb K T G H x a) (e : isND a b = some d) : b = .non ∧ d = .bl (decide (x = .non)) := by
  unfold isND at e
  split at e <;> cases e
  · exact ⟨rfl, by rw [ra.non]; rfl⟩
  · obtain ⟨p, _, _, rfl, _⟩ := Rb.ins s ra; exact ⟨rfl, rfl⟩
  · rw [ra.bl]; exact ⟨rfl, rfl⟩
  · rw [ra.int]; exact ⟨rfl, rfl⟩
  · rw [ra.str]; exact ⟨rfl, rfl⟩
  · obtain ⟨p, _, rfl, _⟩ := Rb.tup s ra; exact ⟨rfl, rfl⟩
  · obtain ⟨p, _, rfl, _⟩ := Rb.lst s ra; exact ⟨rfl, rfl⟩
theorem s_isN {K : PySem.W.Frag} : Snd2 K T (fun x y H Q => y = .non ∧ Q (.bl (decide (x = .non))) H) isND := by
  intro x y a b d G H Q s ra rb e q
  obtain ⟨rfl, rfl⟩ := isN_v s ra e
  exact ⟨rb.non, q _ G H (New.refl s) Rz.bl_⟩
theorem s_notN {K : PySem.W.Frag} : Snd2 K T (fun x y H Q => y = .non ∧ Q (.bl (!decide (x = .non))) H) notND := by
  intro x y a b d G H Q s ra rb e q
  unfold notND at e
  split at e
  · rename_i k h
    obtain ⟨rfl, e2⟩ := isN_v s ra h
    cases e2
    cases e
    exact ⟨rb.non, q _ G H (New.refl s) Rz.bl_⟩
  · cases e
end

/-! ### == and in -/
mutual
def D.py : D → PyData
  | .non => .none
  | .bl b => .bool b
  | .int i => .int i
  | .str s => .str s
  | .tup ds => .tuple (D.pys ds)
  | .lst ds => .list (D.pys ds)
  | .frz ds => .list (D.pys ds)
  | .ins _ _ => .dict []
  | .dct _ _ => .dict []
def D.pys : List D → List PyData
  | [] => []
  | d :: ds => d.py :: D.pys ds
end
mutual
/-- data without instances, its texts of code points -/
def D.flat : D → Bool
  | .str s => PyData.strOk s
  | .tup ds => D.flats ds
  | .lst ds => D.flats ds
  | .frz ds => D.flats ds
  | .ins _ _ => false
  | .dct _ _ => false
  | _ => true
def D.flats : List D → Bool
  | [] => true
  | d :: ds => d.flat && D.flats ds
end
mutual
def D.eqb : D → D → Bool
  | .non, .non => true
  | .bl a, .bl b => a == b
  | .bl a, .int j => (if a then 1 else 0) == j
  | .int i, .bl b => i == (if b then 1 else 0)
  | .int i, .int j => i == j
  | .str x, .str y => x == y
  | .tup xs, .tup ys => D.eqbs xs ys
  | .lst xs, .lst ys => D.eqbs xs ys
  | .lst xs, .frz ys => D.eqbs xs ys
  | .frz xs, .lst ys => D.eqbs xs ys
  | .frz xs, .frz ys => D.eqbs xs ys
  | _, _ => false
def D.eqbs : List D → List D → Bool
  | [], [] => true
  | x :: xs, y :: ys => x.eqb y && D.eqbs xs ys
  | _, _ => false
end
mutual
theorem eqb_py : ∀ a b : D, a.flat = true → b.flat = true → PyData.eqv a.py b.py = a.eqb b
  | .non, b, _, h => by cases b <;> simp_all [D.py, PyData.eqv, D.eqb, D.flat]
  | .bl _, b, _, h => by cases b <;> simp_all [D.py, PyData.eqv, D.eqb, D.flat]
  | .int _, b, _, h => by cases b <;> simp_all [D.py, PyData.eqv, D.eqb, D.flat]
  | .str _, b, _, h => by cases b <;> simp_all [D.py, PyData.eqv, D.eqb, D.flat]
  | .tup ds, b, h1, h => by
    cases b <;> simp_all [D.py, PyData.eqv, D.eqb, D.flat]
    exact eqbs_py _ _ h1 h
  | .lst ds, b, h1, h => by
    cases b <;> simp_all [D.py, PyData.eqv, D.eqb, D.flat]
    all_goals exact eqbs_py _ _ h1 h
  | .frz ds, b, h1, h => by
    cases b <;> simp_all [D.py, PyData.eqv, D.eqb, D.flat]
    all_goals exact eqbs_py _ _ h1 h
  | .ins _ _, b, h1, h => by simp [D.flat] at h1
  | .dct _ _, b, h1, h => by simp [D.flat] at h1
theorem eqbs_py : ∀ a b : List D, D.flats a = true → D.flats b = true → PyData.eqvAll (D.pys a) (D.pys b) = D.eqbs a b
  | [], [], _, _ => by simp [D.pys, PyData.eqvAll, D.eqbs]
  | [], _ :: _, _, _ => by simp [D.pys, PyData.eqvAll, D.eqbs]
  | _ :: _, [], _, _ => by simp [D.pys, PyData.eqvAll, D.eqbs]
  | a :: as, b :: bs, h1, h2 => by
    simp only [D.flats, Bool.and_eq_true] at h1 h2
    simp only [D.pys, PyData.eqvAll, D.eqbs, eqb_py a b h1.1 h2.1, eqbs_py as bs h1.2 h2.2]
end
mutual
theorem flat_lay : ∀ d : D, d.flat = true → d.py.canLay0 = true
  | .non, _ => by simp [D.py, PyData.canLay0]
  | .bl _, _ => by simp [D.py, PyData.canLay0]
  | .int _, _ => by simp [D.py, PyData.canLay0]
  | .str _, h => by simpa [D.py, PyData.canLay0, D.flat] using h
  | .tup ds, h => by simp only [D.py, PyData.canLay0]; exact flats_lay ds (by simpa [D.flat] using h)
  | .lst ds, h => by simp only [D.py, PyData.canLay0]; exact flats_lay ds (by simpa [D.flat] using h)
  | .frz ds, h => by simp only [D.py, PyData.canLay0]; exact flats_lay ds (by simpa [D.flat] using h)
  | .ins _ _, h => by simp [D.flat] at h
  | .dct _ _, h => by simp [D.flat] at h
theorem flats_lay : ∀ ds : List D, D.flats ds = true → PyData.canLayAll0 (D.pys ds) = true
  | [], _ => by simp [D.pys, PyData.canLayAll0]
  | d :: ds, h => by
    simp only [D.flats, Bool.and_eq_true] at h
    simp [D.pys, PyData.canLayAll0, flat_lay d h.1, flats_lay ds h.2]
end
mutual
theorem dp_of {K : PySem.W.Frag} {T : Tab} {G H : Hp} (s : Same G H) : ∀ {v : V} (d : D), d.flat = true → Rz K T G v d → Dp K H v d.py
  | _, .non, _, r => by rw [Rz] at r; subst r; exact .non
  | _, .bl _, _, r => by rw [Rz] at r; subst r; exact .bl _
  | _, .int _, _, r => by rw [Rz] at r; subst r; exact .int _
  | _, .str _, _, r => by rw [Rz] at r; subst r; exact .str _
  | _, .tup ds, h, r => by
    rw [Rz] at r
    obtain ⟨a, xs, rfl, e2, e3⟩ := r
    rw [D.py]
    exact .tup (Same.tup s e2.t) (dps_of s ds (by simpa [D.flat] using h) e3)
  | _, .lst ds, h, r => by
    rw [Rz] at r
    obtain ⟨a, xs, rfl, e2, e3⟩ := r
    rw [D.py]
    exact .lst (SqL.of (s _ _ e2)) (dps_of s ds (by simpa [D.flat] using h) e3)
  | _, .frz ds, h, r => by
    rw [Rz] at r
    obtain ⟨a, xs, rfl, e2, e3⟩ := r
    rw [D.py]
    exact .lst (s.seq e2) (dps_of s ds (by simpa [D.flat] using h) e3)
  | _, .ins _ _, h, r => by simp [D.flat] at h
  | _, .dct _ _, h, r => by simp [D.flat] at h
theorem dps_of {K : PySem.W.Frag} {T : Tab} {G H : Hp} (s : Same G H) : ∀ {vs : List V} (ds : List D), D.flats ds = true → RzL K T G vs ds → DpAll K H vs (D.pys ds)
  | vs, [], _, r => by have := r.nil_inv; subst this; rw [D.pys]; exact .nil
  | vs, d :: ds, h, r => by
    obtain ⟨v, vr, rfl, h1, h2⟩ := r.cons_inv
    simp only [D.flats, Bool.and_eq_true] at h
    rw [D.pys]
    exact .cons (dp_of s d h.1 h1) (dps_of s ds h.2 h2)
end
theorem Rb.dp {K : PySem.W.Frag} {T : Tab} {G H : Hp} (s : Same G H) {v : V} {d : D} (hf : d.flat = true) (r : Rb K T G H v d) : Dp K H v d.py := by
  rcases r with r | ⟨a, o, rfl, rfl, r⟩
  · exact dp_of s d hf r
  · cases o with
    | lst ds =>
      obtain ⟨xs, e1, e2⟩ := r
      show Dp K H _ (D.lst ds).py
      rw [D.py]
      exact .lst (SqL.of e1) (dps_of s ds (by simpa [D.flat, OD.toD] using hf) e2)
    | ins c ds => simp [D.flat, OD.toD] at hf
    | dct ks ds => simp [D.flat, OD.toD] at hf
/-- data that the comparison walks: no instance, texts of code points, at most 64 deep -/
def D.fine (d : D) : Bool := d.flat && decide (d.py.depth ≤ 64)
theorem fine_shaped {d : D} (h : d.fine = true) : SeqAt.shaped d.py = true := by
  simp only [D.fine, Bool.and_eq_true] at h
  unfold SeqAt.shaped
  rw [flat_lay d h.1, h.2]
  rfl
def eqD (a b : D) : Option D := if a.fine = true ∧ b.fine = true then some (.bl (a.eqb b)) else none
def neD (a b : D) : Option D := if a.fine = true ∧ b.fine = true then some (.bl (!a.eqb b)) else none
section
variable {X : Cx} {T : Tab} {W : WX} {pos : Pos}
theorem D.fine_flat {d : D} (h : d.fine = true) : d.flat = true := by simp only [D.fine, Bool.and_eq_true] at h; exact h.1
theorem s_eq {K : PySem.W.Frag} : Snd2 K T (rEqD K) eqD := by
  intro x y a b d G H Q s ra rb e q
  unfold eqD at e
  split at e
  · rename_i h
    cases e
    refine ⟨a.py, b.py, ra.dp s (D.fine_flat h.1), rb.dp s (D.fine_flat h.2), fine_shaped h.1, fine_shaped h.2, ?_⟩
    rw [eqb_py a b (D.fine_flat h.1) (D.fine_flat h.2)]
    exact q _ G H (New.refl s) Rz.bl_
  · cases e
theorem s_ne {K : PySem.W.Frag} : Snd2 K T (rNeD K) neD := by
  intro x y a b d G H Q s ra rb e q
  unfold neD at e
  split at e
  · rename_i h
    cases e
    refine ⟨a.py, b.py, ra.dp s (D.fine_flat h.1), rb.dp s (D.fine_flat h.2), fine_shaped h.1, fine_shaped h.2, ?_⟩
    rw [eqb_py a b (D.fine_flat h.1) (D.fine_flat h.2)]
    exact q _ G H (New.refl s) Rz.bl_
  · cases e
/-- x in a list or a tuple of data -/
def inB (x : D) (ds : List D) : Bool := ds.any fun z => z.eqb x
def rInA (K : PySem.W.Frag) (neg : Bool) : R2 := fun x y H Q => ∃ d ds, Dp K H x d ∧ (Dp K H y (.list ds) ∨ Dp K H y (.tuple ds)) ∧ SeqAt.shaped d = true ∧ PyData.canLayAll0 ds = true ∧ Q (.bl (if neg then !ds.any fun z => PyData.eqv z d else ds.any fun z => PyData.eqv z d)) H
theorem op_inA (hu : X.A.units + 65 < cLine) : OpR X (compareOp .In) (rInA X.K false) := by
  intro pins s σ H x y v u Q I rx ry h
  obtain ⟨d, ds, hd, he, sd, se, q⟩ := h
  obtain ⟨as, r1⟩ := Dp.reads I d x v hd rx
  rcases he with he | he
  · obtain ⟨bs, r2⟩ := Dp.reads I (.list ds) y u he ry
    exact SeqAt.in_list_reads r2 r1 se (SeqAt.canLay_of_shaped sd) (room_in_shaped sd hu) ⟨.bl _, H, I, rfl, q⟩
  · obtain ⟨bs, r2⟩ := Dp.reads I (.tuple ds) y u he ry
    exact SeqAt.in_tuple_reads r2 r1 se (SeqAt.canLay_of_shaped sd) (room_in_shaped sd hu) ⟨.bl _, H, I, rfl, q⟩
theorem op_notInA (hu : X.A.units + 65 < cLine) : OpR X (compareOp .NotIn) (rInA X.K true) := by
  intro pins s σ H x y v u Q I rx ry h
  obtain ⟨d, ds, hd, he, sd, se, q⟩ := h
  obtain ⟨as, r1⟩ := Dp.reads I d x v hd rx
  rcases he with he | he
  · obtain ⟨bs, r2⟩ := Dp.reads I (.list ds) y u he ry
    exact SeqAt.notIn_list_reads r2 r1 se (SeqAt.canLay_of_shaped sd) (room_in_shaped sd hu) ⟨.bl _, H, I, rfl, q⟩
  · obtain ⟨bs, r2⟩ := Dp.reads I (.tuple ds) y u he ry
    exact SeqAt.notIn_tuple_reads r2 r1 se (SeqAt.canLay_of_shaped sd) (room_in_shaped sd hu) ⟨.bl _, H, I, rfl, q⟩
theorem any_py {x : D} (hx : x.flat = true) : ∀ {ds : List D}, D.flats ds = true → ((D.pys ds).any fun z => PyData.eqv z x.py) = inB x ds
  | [], _ => rfl
  | d :: ds, h => by
    simp only [D.flats, Bool.and_eq_true] at h
    rw [D.pys, List.any_cons, any_py hx h.2, eqb_py d x h.1 hx]
    rfl
def inD (neg : Bool) (x y : D) : Option D := match seqOf y with
  | some ds => if x.fine = true ∧ D.flats ds = true then some (.bl (if neg then !inB x ds else inB x ds)) else none
  | none => none
theorem s_in {K : PySem.W.Frag} {neg : Bool} : Snd2 K T (rInA K neg) (inD neg) := by
  intro x y a b d G H Q s ra rb e q
  unfold inD at e
  split at e
  · rename_i ds hb
    split at e
    · rename_i h
      cases e
      have hd : Dp K H y (.list (D.pys ds)) ∨ Dp K H y (.tuple (D.pys ds)) := by
        cases b with
        | tup es =>
          cases hb
          have := rb.dp s (d := .tup ds) (by rw [D.flat]; exact h.2)
          rw [D.py] at this
          exact .inr this
        | lst es =>
          cases hb
          have := rb.dp s (d := .lst ds) (by rw [D.flat]; exact h.2)
          rw [D.py] at this
          exact .inl this
        | frz es =>
          cases hb
          have := rb.dp s (d := .frz ds) (by rw [D.flat]; exact h.2)
          rw [D.py] at this
          exact .inl this
        | _ => cases hb
      refine ⟨a.py, D.pys ds, ra.dp s (D.fine_flat h.1), hd, fine_shaped h.1, flats_lay ds h.2, ?_⟩
      rw [any_py (D.fine_flat h.1) h.2]
      exact q _ G H (New.refl s) Rz.bl_
    · cases e
  · cases e
end
end Zd
end
section
/-! Zd 5: statements. -/
namespace Zd
open PySem PySem.Spec PyProof.Rows L2
set_option autoImplicit false

/-- how a block ends -/
inductive Fl where
  | nx | rt (d : D) | bk | ct
abbrev DSn := Env → R (Env × Fl)
section
variable {K : PySem.W.Frag} {T : Tab} {W : WX} {τ : Nat → Addr} {ρ ρ' : Env} {σ σ' : L2.St} {G G' H H' : Hp} {α β : Type}
theorem Out.bind0 {r : R (Env × α)} {f : Env × α → R (Env × β)} {Kk : Env → β → Hp → Hp → Prop} (h : Out K T W τ ρ σ G H (r.bind f) Kk) :
    Out K T W τ ρ σ G H r fun ρ1 a G1 H1 => Out K T W τ ρ σ G H (f (ρ1, a)) Kk := by
  cases r with
  | ok p => exact fun G1 H1 k fr => h
  | ex ρ2 x => exact h
  | bad => exact h
/-- a new object, frozen: seen from a start where it was not there -/
theorem Fr.freeze {ρ0 : Env} {σ0 : L2.St} {G0 H0 : Hp} (f : Fr ρ0 σ0 G0 H0 ρ σ G H) {a : Addr} {u : HO} (h : H0 a = none) (g : G a = none) : Fr ρ0 σ0 G0 H0 ρ σ (upd G a u) H :=
  ⟨f.gro.trans (Same.upd g), fun b o hb nt no => by
    obtain ⟨h1, h2, h3⟩ := f.keep b o hb nt no
    exact ⟨h1, by rw [upd_ne (ne_of_none hb h)]; exact h2, h3⟩, f.stay⟩
theorem Ok.freezeFr (k : Ok K T τ ρ σ G H) {v : V} {o : OD} (r : RpOp K T ρ σ G H v (.fr o)) : ∃ a u, v = .ref a ∧ G a = none ∧ Rz K T (upd G a u) v o.toD ∧ Ok K T τ ρ σ (upd G a u) H := by
  obtain ⟨a, rfl, g, ro, no⟩ := r
  obtain ⟨u, hu, nt⟩ := ro.thereN
  have sg : Same G (upd G a u) := Same.upd g
  have sh : Same (upd G a u) H := fun b x q => by
    by_cases hb : b = a
    · subst hb; rw [upd_same] at q; rw [hu]; exact q
    · rw [upd_ne hb] at q; exact k.sub _ _ q
  refine ⟨a, u, rfl, g, ?_, ⟨sh, k.len, fun j d q => ?_, fun j t o' q => ?_, k.dis, k.tab.frz nt⟩⟩
  · cases o with
    | lst ds =>
      obtain ⟨xs, q1, q2⟩ := ro
      rw [hu] at q1; cases q1
      exact Rz.lst_ upd_same (q2.mono sg)
    | ins c ds =>
      obtain ⟨dx, fs, q1, q2, q3⟩ := ro
      rw [hu] at q1; cases q1
      show Rz K T _ _ (.ins c ds)
      rw [Rz]
      exact ⟨a, dx, fs, rfl, upd_same, q2, q3.mono sg⟩
    | dct ks ds =>
      obtain ⟨kvs, q1, q2, q3⟩ := ro
      rw [hu] at q1; cases q1
      show Rz K T _ _ (.dct ks ds)
      rw [Rz]
      exact ⟨a, kvs, rfl, upd_same, q2, q3.mono sg⟩
  · obtain ⟨w, q1, q2⟩ := k.val j d q
    exact ⟨w, q1, q2.mono sg⟩
  · obtain ⟨b, q1, q2, q3, q4⟩ := k.own j t o' q
    have hb : b ≠ a := fun z => by subst z; exact no ⟨j, t, o', q, q1⟩
    exact ⟨b, q1, by rw [upd_ne hb]; exact q2, q3.mono sg fun u h _ => h, q4⟩

/-- a slot is stored -/
def toB : Op → Option B
  | .v d => some (.val d)
  | .fr o => some (.own 0 o)
  | .pl _ => none
theorem own_set {i : Nat} {b : B} {v : V} {a : Addr} (h : OwnAt (ρ.set i (some b)) (σ.set i (some v)) a) : OwnAt ρ σ a ∨ ∃ t o, b = .own t o ∧ v = .ref a := by
  obtain ⟨j, t, o, q1, q2⟩ := h
  by_cases hj : i = j
  · subst hj
    by_cases hi : i < ρ.length
    · rw [List.getElem?_set_self hi] at q1
      have e1 : b = .own t o := by injection q1 with q1; injection q1
      by_cases hi2 : i < σ.length
      · rw [List.getElem?_set_self hi2] at q2
        exact .inr ⟨t, o, e1, by injection q2 with q2; injection q2⟩
      · rw [List.getElem?_eq_none (by simpa using hi2)] at q2; cases q2
    · rw [List.getElem?_eq_none (by simpa using hi)] at q1; cases q1
  · rw [List.getElem?_set_ne hj] at q1 q2
    exact .inl ⟨j, t, o, q1, q2⟩
theorem Ok.setOp (k : Ok K T τ ρ σ G H) {i : Nat} {v : V} {op : Op} {b : B} (r : RpOp K T ρ σ G H v op) (e : toB op = some b) : Ok K T τ (ρ.set i (some b)) (σ.set i (some v)) G H where
  sub := k.sub
  tab := k.tab
  len := by rw [List.length_set, List.length_set]; exact k.len
  val := fun j d q => by
    by_cases hj : i = j
    · subst hj
      by_cases hi : i < ρ.length
      · rw [List.getElem?_set_self hi] at q
        rw [List.getElem?_set_self (by rw [← k.len]; exact hi)]
        refine ⟨v, rfl, ?_⟩
        cases op <;> cases e <;> cases q
        exact r
      · rw [List.getElem?_eq_none (by simpa using hi)] at q; cases q
    · rw [List.getElem?_set_ne hj] at q ⊢
      exact k.val j d q
  own := fun j t o q => by
    by_cases hj : i = j
    · subst hj
      by_cases hi : i < ρ.length
      · rw [List.getElem?_set_self hi] at q
        rw [List.getElem?_set_self (by rw [← k.len]; exact hi)]
        cases op <;> cases e <;> cases q
        obtain ⟨a, rfl, g, ro, no⟩ := r
        exact ⟨a, rfl, g, ro, fun z => absurd rfl z⟩
      · rw [List.getElem?_eq_none (by simpa using hi)] at q; cases q
    · rw [List.getElem?_set_ne hj] at q ⊢
      exact k.own j t o q
  dis := fun j l t u o p a q1 q2 q3 q4 => by
    have go : ∀ m, i ≠ m → ∀ t o, (ρ.set i (some b))[m]? = some (some (B.own t o)) → (σ.set i (some v))[m]? = some (some (V.ref a)) → ρ[m]? = some (some (B.own t o)) ∧ σ[m]? = some (some (V.ref a)) := fun m hm t o z1 z2 => by
      rw [List.getElem?_set_ne hm] at z1 z2
      exact ⟨z1, z2⟩
    have at_ : ∀ t o, (ρ.set i (some b))[i]? = some (some (B.own t o)) → (σ.set i (some v))[i]? = some (some (V.ref a)) → ¬ OwnAt ρ σ a := fun t o z1 z2 => by
      have hi : i < ρ.length := by
        have := (List.getElem?_eq_some_iff.mp z1).1
        simpa using this
      rw [List.getElem?_set_self hi] at z1
      rw [List.getElem?_set_self (by rw [← k.len]; exact hi)] at z2
      cases z2
      cases op <;> cases e <;> cases z1
      obtain ⟨a', e2, g, ro, no⟩ := r
      cases e2
      exact no
    by_cases hj : i = j
    · by_cases hl : i = l
      · rw [← hj, ← hl]
      · subst hj
        obtain ⟨z1, z2⟩ := go l hl u p q2 q4
        exact absurd ⟨l, u, p, z1, z2⟩ (at_ t o q1 q3)
    · by_cases hl : i = l
      · subst hl
        obtain ⟨z1, z2⟩ := go j hj t o q1 q3
        exact absurd ⟨j, t, o, z1, z2⟩ (at_ u p q2 q4)
      · obtain ⟨z1, z2⟩ := go j hj t o q1 q3
        obtain ⟨z3, z4⟩ := go l hl u p q2 q4
        exact k.dis j l t u o p a z1 z3 z2 z4
theorem Fr.setOp {ρ0 : Env} {σ0 : L2.St} {G0 H0 : Hp} (f : Fr ρ0 σ0 G0 H0 ρ σ G H) {i : Nat} {v : V} {op : Op} {b : B} (fv : FreshV H0 v op) (e : toB op = some b) : Fr ρ0 σ0 G0 H0 (ρ.set i (some b)) (σ.set i (some v)) G H :=
  ⟨f.gro, fun c o hc nt no => by
    obtain ⟨h1, h2, h3⟩ := f.keep c o hc nt no
    refine ⟨h1, h2, fun z => ?_⟩
    rcases own_set z with z | ⟨t, o', e1, e2⟩
    · exact h3 z
    · cases op <;> cases e <;> cases e1
      obtain ⟨a, e3, e4⟩ := fv _ rfl
      rw [e2] at e3
      injection e3 with e3
      rw [e3, e4] at hc
      exact absurd hc (by simp), f.stay⟩
/-- an owned object is changed -/
theorem Ok.updOwn (k : Ok K T τ ρ σ G H) {i t : Nat} {o o' : OD} {a : Addr} {u : HO} (e : ρ[i]? = some (some (B.own t o))) (q : σ[i]? = some (some (V.ref a))) (g : G a = none) (ht : t ≠ 0 → τ t = a) (r : RO K T G (upd H a u) a o') :
    Ok K T τ (ρ.set i (some (B.own t o'))) σ G (upd H a u) ∧ Fr ρ σ G H (ρ.set i (some (B.own t o'))) σ G (upd H a u) := by
  have hi : i < ρ.length := (List.getElem?_eq_some_iff.mp e).1
  have back : ∀ (j t1 : Nat) (o1 : OD), (ρ.set i (some (B.own t o')))[j]? = some (some (B.own t1 o1)) → ∃ t2 o2, ρ[j]? = some (some (B.own t2 o2)) := fun j t1 o1 z => by
    by_cases hj : i = j
    · subst hj; exact ⟨t, o, e⟩
    · rw [List.getElem?_set_ne hj] at z; exact ⟨t1, o1, z⟩
  refine ⟨⟨fun b x hb => ?_, by rw [List.length_set]; exact k.len, fun j d z => ?_, fun j t1 o1 z => ?_, fun j l t1 t2 o1 o2 b q1 q2 q3 q4 => ?_, ?_⟩, ⟨Same.refl _, fun b x hb nt no => ?_, fun b x hb => ?_⟩⟩
  · have : b ≠ a := fun z => by subst z; rw [g] at hb; cases hb
    rw [upd_ne this]; exact k.sub _ _ hb
  · have hj : i ≠ j := fun w => by subst w; rw [List.getElem?_set_self hi] at z; cases z
    rw [List.getElem?_set_ne hj] at z
    exact k.val j d z
  · by_cases hj : i = j
    · subst hj
      rw [List.getElem?_set_self hi] at z
      cases z
      exact ⟨a, q, g, r, ht⟩
    · rw [List.getElem?_set_ne hj] at z
      obtain ⟨b, z1, z2, z3, z4⟩ := k.own j t1 o1 z
      have hb : b ≠ a := fun w => by subst w; exact hj (k.dis i j _ _ _ _ b e z q z1)
      exact ⟨b, z1, z2, z3.mono (Same.refl _) fun w hw _ => by rw [upd_ne hb]; exact hw, z4⟩
  · obtain ⟨t3, o3, w1⟩ := back j t1 o1 q1
    obtain ⟨t4, o4, w2⟩ := back l t2 o2 q2
    exact k.dis j l _ _ _ _ b w1 w2 q3 q4
  · obtain ⟨b, z1, z2, z3, z4⟩ := k.own i t o e
    rw [q] at z1
    cases z1
    exact z3.tabsG k.tab
  · have hb' : b ≠ a := fun z => by subst z; exact no ⟨i, t, o, e, q⟩
    refine ⟨by rw [upd_ne hb']; exact hb, rfl, fun ⟨j, t1, o1, w1, w2⟩ => ?_⟩
    obtain ⟨t2, o2, w3⟩ := back j t1 o1 w1
    exact no ⟨j, t2, o2, w3, w2⟩
  · by_cases z : b = a
    · subst z; exact ⟨u, upd_same⟩
    · exact ⟨x, by rw [upd_ne z]; exact hb⟩

def OutS (K : PySem.W.Frag) (T : Tab) (W : WX) (τ : Nat → Addr) (ρ : Env) (σ : L2.St) (G H : Hp) (r : R (Env × Fl)) (Dn : Ends) : Prop := match r with
  | .ok (ρ', .nx) => ∀ σ' G' H', Ok K T τ ρ' σ' G' H' → Fr ρ σ G H ρ' σ' G' H' → Dn.nx σ' H'
  | .ok (ρ', .bk) => ∀ σ' G' H', Ok K T τ ρ' σ' G' H' → Fr ρ σ G H ρ' σ' G' H' → Dn.bk σ' H'
  | .ok (ρ', .ct) => ∀ σ' G' H', Ok K T τ ρ' σ' G' H' → Fr ρ σ G H ρ' σ' G' H' → Dn.ct σ' H'
  | .ok (ρ', .rt d) => ∀ v σ' G' H', Ok K T τ ρ' σ' G' H' → Fr ρ σ G H ρ' σ' G' H' → Rz K T G' v d → Dn.rt v H'
  | .ex ρ' x => ∀ cls dx σ' G' H', Ok K T τ ρ' σ' G' H' → Fr ρ σ G H ρ' σ' G' H' → XOk K T G' H' cls dx x → W cls dx σ' H'
  | .bad => False
theorem OutS.shift {r : R (Env × Fl)} {Dn : Ends} (fr : Fr ρ σ G H ρ' σ' G' H') (h : OutS K T W τ ρ σ G H r Dn) : OutS K T W τ ρ' σ' G' H' r Dn := by
  cases r with
  | ok p =>
    obtain ⟨ρ1, f⟩ := p
    cases f with
    | nx => exact fun s2 G2 H2 k f2 => h s2 G2 H2 k (fr.trans f2)
    | bk => exact fun s2 G2 H2 k f2 => h s2 G2 H2 k (fr.trans f2)
    | ct => exact fun s2 G2 H2 k f2 => h s2 G2 H2 k (fr.trans f2)
    | rt d => exact fun v s2 G2 H2 k f2 => h v s2 G2 H2 k (fr.trans f2)
  | ex ρ2 x => exact fun cls dx s2 G2 H2 k f2 => h cls dx s2 G2 H2 k (fr.trans f2)
  | bad => exact h
/-- an expression ahead of a block -/
theorem OutS.bindE {r : R (Env × α)} {f : Env × α → R (Env × Fl)} {Dn : Ends} (h : OutS K T W τ ρ σ G H (r.bind f) Dn) : Out K T W τ ρ σ G H r fun ρ1 a _ _ => OutS K T W τ ρ σ G H (f (ρ1, a)) Dn := by
  cases r with
  | ok p => exact fun G1 H1 k fr => h
  | ex ρ2 x => exact fun cls dx G' H' k fr xo => h cls dx σ G' H' k fr xo
  | bad => exact h
end
section
variable (K : PySem.W.Frag) (T : Tab) (W : WX)
def tS (d : DSn) : TS := fun Dn σ H => ∃ τ ρ G, Ok K T τ ρ σ G H ∧ OutS K T W τ ρ σ G H (d ρ) Dn
end
def DS (X : Cx) (T : Tab) (W : WX) (st : Stmt) (d : DSn) : Prop := PS X st (tS X.K T W d)
def DSs (X : Cx) (T : Tab) (W : WX) (sts : List Stmt) (d : DSn) : Prop := PSs X sts (tS X.K T W d)
theorem PS.imp {X : Cx} {st : Stmt} {t t' : TS} (h : PS X st t) (i : ∀ D σ H, t' D σ H → t D σ H) : PS X st t' := ⟨fun pins s σ H D I q => h.run pins s σ H D I (i _ _ _ q)⟩
theorem PSs.imp {X : Cx} {st : List Stmt} {t t' : TS} (h : PSs X st t) (i : ∀ D σ H, t' D σ H → t D σ H) : PSs X st t' := ⟨fun pins s σ H D I q => h.run pins s σ H D I (i _ _ _ q)⟩
/-- code that is not walked -/
def dNever : DSn := fun _ => .bad
section
variable {X : Cx} {T : Tab} {W : WX} {pos : Pos}
theorem ds_never {st : Stmt} : DS X T W st dNever := PS.imp ps_never fun D σ H ⟨τ, ρ, G, k, q⟩ => q
theorem dss_never {st : List Stmt} : DSs X T W st dNever := PSs.imp pss_never fun D σ H ⟨τ, ρ, G, k, q⟩ => q
def dEnd (f : Fl) : DSn := fun ρ => .ok (ρ, f)
theorem dss_nil : DSs X T W [] (dEnd .nx) := PSs.imp pss_nil fun D σ H ⟨τ, ρ, G, k, q⟩ => q σ G H k Fr.refl
theorem ds_pass : DS X T W (.Pass pos) (dEnd .nx) := PS.imp ps_pass fun D σ H ⟨τ, ρ, G, k, q⟩ => q σ G H k Fr.refl
theorem ds_break : DS X T W (.Break pos) (dEnd .bk) := PS.imp ps_break fun D σ H ⟨τ, ρ, G, k, q⟩ => q σ G H k Fr.refl
theorem ds_continue : DS X T W (.Continue pos) (dEnd .ct) := PS.imp ps_continue fun D σ H ⟨τ, ρ, G, k, q⟩ => q σ G H k Fr.refl
def dSeq (a b : DSn) : DSn := fun ρ => (a ρ).bind fun p => match p.2 with
  | .nx => b p.1
  | f => .ok (p.1, f)
theorem tS_seq {K : PySem.W.Frag} {a b : DSn} (D : Ends) (σ : L2.St) (H : Hp) (q : tS K T W (dSeq a b) D σ H) : tSeq (tS K T W a) (tS K T W b) D σ H := by
  obtain ⟨τ, ρ, G, k, q⟩ := q
  refine ⟨τ, ρ, G, k, ?_⟩
  unfold dSeq at q
  cases e : a ρ with
  | ok p =>
    rw [e] at q
    obtain ⟨ρ1, f⟩ := p
    cases f with
    | nx => exact fun σ' G' H' k' fr => ⟨τ, ρ1, G', k', OutS.shift fr q⟩
    | bk => exact q
    | ct => exact q
    | rt d => exact q
  | ex ρ2 x => rw [e] at q; exact q
  | bad => rw [e] at q; exact q
theorem dss_cons {st : Stmt} {rest : List Stmt} {a b : DSn} (h1 : DS X T W st a) (h2 : DSs X T W rest b) : DSs X T W (st :: rest) (dSeq a b) := PSs.imp (pss_cons h1 h2) tS_seq
theorem dss_one {st : Stmt} {a : DSn} (h1 : DS X T W st a) : DSs X T W [st] a := pss_one h1
/-! ### return, if, a dropped value -/
def dRet (d : DEn) : DSn := fun ρ => (d ρ).bind fun p => .ok (p.1, .rt p.2)
theorem ds_ret {e : Expr} {d : DEn} (h : DE X T W e d) : DS X T W (.Return (some e) pos) (dRet d) := by
  refine PS.imp (ps_ret h) fun D σ H q => ?_
  obtain ⟨τ, ρ, G, k, q⟩ := q
  exact ⟨τ, ρ, G, k, (OutS.bindE q).imp fun ρ1 r G1 H1 k1 fr1 q1 v rv => q1 v σ G1 H1 k1 fr1 rv⟩
theorem ds_retN : DS X T W (.Return none pos) (dEnd (.rt .non)) := PS.imp ps_retN fun D σ H ⟨τ, ρ, G, k, q⟩ => q .non σ G H k Fr.refl Rz.non_
def dDrop (d : DOn) : DSn := fun ρ => (d ρ).bind fun p => .ok (p.1, .nx)
theorem ds_expr {e : Expr} {d : DOn} (h : DO X T W e d) (hs : swapsWith e none pos.line X.env = pure false := by rfl) : DS X T W (.Expr e pos) (dDrop d) := by
  refine PS.imp (ps_expr h hs) fun D σ H q => ?_
  obtain ⟨τ, ρ, G, k, q⟩ := q
  exact ⟨τ, ρ, G, k, (OutS.bindE q).imp fun ρ1 r G1 H1 k1 fr1 q1 v rv fv => q1 σ G1 H1 k1 fr1⟩
theorem ds_doc {x j pos'} : DS X T W (.Expr (.Constant (.str x) j pos) pos') (dEnd .nx) := PS.imp ps_doc fun D σ H ⟨τ, ρ, G, k, q⟩ => q σ G H k Fr.refl
def dIte (t : DTn) (a b : DSn) : DSn := fun ρ => (t ρ).bind fun p => if p.2 = true then a p.1 else b p.1
theorem ds_if {c : Expr} {x y : List Stmt} {t : DTn} {a b : DSn} (hc : DT X T W c t) (ha : DSs X T W x a) (hb : DSs X T W y b) : DS X T W (.If c x y pos) (dIte t a b) := by
  refine PS.imp (ps_if hc ha hb) fun D σ H q => ?_
  obtain ⟨τ, ρ, G, k, q⟩ := q
  refine ⟨τ, ρ, G, k, (OutS.bindE q).imp fun ρ1 r G1 H1 k1 fr1 q1 => ?_⟩
  cases r with
  | true => rw [if_pos rfl] at q1 ⊢; exact ⟨τ, ρ1, G1, k1, OutS.shift fr1 q1⟩
  | false => rw [if_neg Bool.false_ne_true] at q1 ⊢; exact ⟨τ, ρ1, G1, k1, OutS.shift fr1 q1⟩

/-! ### a new list as an operand; an operand frozen -/
def oLst (a : DAn) : DOn := fun ρ => (a ρ).bind fun p => match vals p.2 with
  | some ds => sz ds.length (.ok (p.1, .fr (.lst ds)))
  | none => .bad
theorem own_there {K : PySem.W.Frag} {τ : Nat → Addr} {ρ : Env} {σ : L2.St} {G H : Hp} (k : Ok K T τ ρ σ G H) {a : Addr} (h : OwnAt ρ σ a) : ∃ u, H a = some u := by
  obtain ⟨i, t, o, e, q⟩ := h
  obtain ⟨b, q1, g, r, _⟩ := k.own i t o e
  rw [q] at q1; cases q1
  exact r.there
/-- an object just made, loose -/
theorem loose_op {K : PySem.W.Frag} {τ : Nat → Addr} {ρ : Env} {σ : L2.St} {G H : Hp} (k : Ok K T τ ρ σ G H) {p : Addr} {xs : List V} {ds : List D} (hp : H p = none) (r : RzL K T G xs ds) : RpOp K T ρ σ G (upd H p (.lst xs)) (.ref p) (.fr (.lst ds)) :=
  ⟨p, rfl, k.sub.free hp, ⟨xs, upd_same, r⟩, fun z => by
    obtain ⟨u, hu⟩ := own_there k z
    rw [hp] at hu; cases hu⟩
theorem do_lst {es : List Expr} {a : DAn} (h : DA X T W es a) : DO X T W (.List es pos) (oLst a) := by
  refine PE.imp (pe_lst h) fun σ H Q q => ?_
  obtain ⟨τ, ρ, G, k, q⟩ := q
  refine ⟨τ, ρ, G, k, (Out.bind0 q).imp fun ρ1 ops G1 H1 k1 fr1 q1 vs rvs fvs => ?_⟩
  dsimp only at q1
  split at q1
  · rename_i ds h1
    have rz := rz_vals rvs h1
    by_cases hz : ds.length ≤ 1000000
    · rw [sz_ok hz] at q1
      refine ⟨line_of (by rw [rz.len]; exact hz), fun p hp => ?_⟩
      have n := New.loose (T := T) (o := .lst vs) k1.sub hp
      exact q1 _ _ (k1.new n) (fr1.trans n.fr) _ (loose_op k1 hp rz) fun od _ => ⟨p, rfl, fr1.free hp⟩
    · unfold sz at q1; rw [if_neg hz] at q1; exact q1.elim
  · exact q1.elim
def dFz (o : DOn) : DEn := fun ρ => (o ρ).bind fun p => match p.2 with
  | .v d => .ok (p.1, d)
  | .fr od => .ok (p.1, od.toD)
  | .pl i => dName i p.1
theorem de_o {e : Expr} {o : DOn} (h : DO X T W e o) : DE X T W e (dFz o) := by
  refine PE.imp h fun σ H Q q => ?_
  obtain ⟨τ, ρ, G, k, q⟩ := q
  refine ⟨τ, ρ, G, k, (Out.bind0 q).imp fun ρ1 op G1 H1 k1 fr1 q1 v rv fv => ?_⟩
  cases op with
  | v d => exact q1 G1 H1 k1 fr1 v rv
  | fr od =>
    obtain ⟨a, u, e1, g, rz, k2⟩ := k1.freezeFr rv
    obtain ⟨b, e2, e3⟩ := fv od rfl
    have : a = b := by rw [e1] at e2; injection e2
    subst this
    exact q1 _ _ k2 (fr1.freeze e3 g) v rz
  | pl i =>
    have q2 : Out X.K T W τ ρ σ G H (dName i ρ1) _ := q1
    unfold dName at q2
    split at q2
    · rename_i d e
      obtain ⟨w, q3, r⟩ := k1.val i d e
      have e2 : v = w := by
        have rv' : σ[i]? = some (some v) := rv
        rw [rv'] at q3; cases q3; rfl
      subst e2
      exact q2 G1 H1 k1 fr1 v r
    · rename_i t o e
      obtain ⟨a, G', q3, r, k', fr⟩ := k1.freeze e
      have e2 : v = .ref a := by
        have rv' : σ[i]? = some (some v) := rv
        rw [rv'] at q3; cases q3; rfl
      subst e2
      exact q2 G' H1 k' (fr1.trans fr) _ r
    · exact q2.elim

/-! ### x = e -/
def dSet (i : Nat) (o : DOn) : DSn := fun ρ => (o ρ).bind fun p => match toB p.2 with
  | some b => .ok (p.1.set i (some b), .nx)
  | none => .bad
theorem tSet_of {K : PySem.W.Frag} {i : Nat} {o : DOn} (D : Ends) (σ : L2.St) (H : Hp) (q : tS K T W (dSet i o) D σ H) : tAsg (tO K T W o) (gName i) D σ H := by
  obtain ⟨τ, ρ, G, k, q⟩ := q
  refine ⟨τ, ρ, G, k, (OutS.bindE q).imp fun ρ1 op G1 H1 k1 fr1 q1 v rv fv => ?_⟩
  dsimp only at q1
  split at q1
  · rename_i b h1
    exact q1 _ G1 H1 (k1.setOp rv h1) (fr1.setOp fv h1)
  · exact q1.elim
theorem ds_set {i : Nat} {x : Str} {e : Expr} {o : DOn} {pos' : Pos} (hN : X.N.Nodup) (h : DO X T W e o) (hi : X.N[i]? = some x := by rfl) (hx : Loc X.env.scope x := by first | exact .inl rfl | exact .inr rfl) (hs : swapsWith e (some (.Name x pos')) pos.line X.env = pure false := by rfl)
    (hf : X.fn x = true ∨ X.env.scope.names.lookup x = some .local := by first | exact .inl rfl | exact .inr rfl) : DS X T W (.Assign [.Name x pos'] e pos) (dSet i o) :=
  PS.imp (ps_set hN hi hx h hs hf) tSet_of
/-! ### targets -/
/-- the slots but for some are as they were -/
structure Off (is : List Nat) (σ σ' : L2.St) : Prop where
  len : σ'.length = σ.length
  get : ∀ j, j ∉ is → σ'[j]? = σ[j]?
theorem Off.refl {is : List Nat} {σ : L2.St} : Off is σ σ := ⟨rfl, fun _ _ => rfl⟩
theorem Off.trans {is js : List Nat} {σ σ1 σ2 : L2.St} (a : Off is σ σ1) (b : Off js σ1 σ2) : Off (is ++ js) σ σ2 :=
  ⟨b.len.trans a.len, fun j h => by
    rw [List.mem_append, not_or] at h
    rw [b.get j h.2, a.get j h.1]⟩
def tG (K : PySem.W.Frag) (T : Tab) (W : WX) (is : List Nat) (g : D → Env → Option Env) : TG := fun v σ H Q => ∃ τ ρ G d, Ok K T τ ρ σ G H ∧ Rz K T G v d ∧ ∃ ρ', g d ρ = some ρ' ∧ ∀ σ', Ok K T τ ρ' σ' G H → Fr ρ σ G H ρ' σ' G H → Off is σ σ' → Q σ' H
def DG (X : Cx) (T : Tab) (W : WX) (tg : Expr) (is : List Nat) (g : D → Env → Option Env) : Prop := PG X tg (tG X.K T W is g)
theorem PG.imp {X : Cx} {tg : Expr} {t t' : TG} (h : PG X tg t) (i : ∀ v σ H Q, t' v σ H Q → t v σ H Q) : PG X tg t' := ⟨fun pins s σ H v u Q I r q => h.run pins s σ H v u Q I r (i _ _ _ _ q)⟩
theorem PGs.imp {X : Cx} {tg : List Expr} {t t' : TGs} (h : PGs X tg t) (i : ∀ v σ H Q, t' v σ H Q → t v σ H Q) : PGs X tg t' := ⟨fun pins s σ H v u Q I r q => h.run pins s σ H v u Q I r (i _ _ _ _ q)⟩
def gNm (i : Nat) : D → Env → Option Env := fun d ρ => some (ρ.set i (some (.val d)))
theorem dg_name {i : Nat} {x : Str} (hN : X.N.Nodup) (hi : X.N[i]? = some x := by rfl) (hx : Loc X.env.scope x := by first | exact .inl rfl | exact .inr rfl) (hf : X.fn x = true ∨ X.env.scope.names.lookup x = some .local := by first | exact .inl rfl | exact .inr rfl) : DG X T W (.Name x pos) [i] (gNm i) := by
  refine PG.imp (pg_name hN hi hx hf) fun v σ H Q q => ?_
  obtain ⟨τ, ρ, G, d, k, rz, ρ', e, q⟩ := q
  cases e
  exact q _ (k.setOp (op := .v d) rz rfl) (Fr.refl.setOp (op := .v d) (fun _ z => nomatch z) rfl) ⟨List.length_set, fun j hj => List.getElem?_set_ne (fun z => hj (by rw [z]; exact List.mem_singleton.mpr rfl))⟩
def gsNil : List D → Env → Option Env
  | [], ρ => some ρ
  | _ :: _, _ => none
def gsCons (g : D → Env → Option Env) (gs : List D → Env → Option Env) : List D → Env → Option Env
  | d :: ds, ρ => (g d ρ).bind fun ρ1 => gs ds ρ1
  | [], _ => none
def tGs (K : PySem.W.Frag) (T : Tab) (W : WX) (is : List Nat) (g : List D → Env → Option Env) : TGs := fun vs σ H Q => ∃ τ ρ G ds, Ok K T τ ρ σ G H ∧ RzL K T G vs ds ∧ ∃ ρ', g ds ρ = some ρ' ∧ ∀ σ', Ok K T τ ρ' σ' G H → Fr ρ σ G H ρ' σ' G H → Off is σ σ' → Q σ' H
def DGs (X : Cx) (T : Tab) (W : WX) (tg : List Expr) (is : List Nat) (g : List D → Env → Option Env) : Prop := PGs X tg (tGs X.K T W is g)
theorem dgs_nil : DGs X T W [] [] gsNil := by
  refine PGs.imp pgs_nil fun vs σ H Q q => ?_
  obtain ⟨τ, ρ, G, ds, k, rz, ρ', e, q⟩ := q
  cases ds with
  | nil => cases e; exact ⟨rz.nil_inv, q σ k Fr.refl Off.refl⟩
  | cons d ds => cases e
theorem dgs_cons {e : Expr} {es : List Expr} {is js : List Nat} {g : D → Env → Option Env} {gs : List D → Env → Option Env} (h : DG X T W e is g) (r : DGs X T W es js gs)
    (hs : (assignEach (e :: es) X.env).map (·.2) = assign e X.env :: (assignEach es X.env).map (·.2) := by rfl) : DGs X T W (e :: es) (is ++ js) (gsCons g gs) := by
  refine PGs.imp (pgs_cons h r hs) fun vs σ H Q q => ?_
  obtain ⟨τ, ρ, G, ds, k, rz, ρ', e, q⟩ := q
  cases ds with
  | nil => cases e
  | cons d ds =>
    obtain ⟨v, vr, rfl, h1, h2⟩ := rz.cons_inv
    dsimp only [gsCons] at e
    cases e1 : g d ρ with
    | some ρ1 =>
      rw [e1] at e
      exact ⟨v, vr, rfl, τ, ρ, G, d, k, h1, ρ1, e1, fun σ1 k1 f1 o1 => ⟨τ, ρ1, G, ds, k1, h2, ρ', e, fun σ2 k2 f2 o2 => q σ2 k2 (f1.trans f2) (o1.trans o2)⟩⟩
    | none => rw [e1] at e; cases e
def gTp (gs : List D → Env → Option Env) : D → Env → Option Env
  | .tup ds, ρ => gs ds ρ
  | _, _ => none
theorem gs_len {g : List D → Env → Option Env} {n : Nat} (hl : ∀ ds ρ ρ', g ds ρ = some ρ' → ds.length = n) {ds : List D} {ρ ρ' : Env} (e : g ds ρ = some ρ') : ds.length = n := hl _ _ _ e
/-- how many a row of targets takes -/
def Takes_ (g : List D → Env → Option Env) (n : Nat) : Prop := ∀ ds ρ ρ', g ds ρ = some ρ' → ds.length = n
theorem takes_nil : Takes_ gsNil 0 := fun ds ρ ρ' e => by cases ds <;> first | rfl | cases e
theorem takes_cons {g : D → Env → Option Env} {gs : List D → Env → Option Env} {n : Nat} (h : Takes_ gs n) : Takes_ (gsCons g gs) (n + 1) := fun ds ρ ρ' e => by
  cases ds with
  | nil => cases e
  | cons d ds =>
    dsimp only [gsCons] at e
    cases e1 : g d ρ with
    | some ρ1 => rw [e1] at e; rw [List.length_cons, h _ _ _ e]
    | none => rw [e1] at e; cases e
theorem dg_tup {es : List Expr} {kk n : Nat} {is : List Nat} {gs : List D → Env → Option Env} (hc : X.calm = true) (h : DGs X T W es is gs) (hk : Takes_ gs n) (hn : (assignEach es X.env).length = n := by rfl) (hst : (assignEach es X.env).findIdx? (·.1) = none := by rfl) : DG X T W (.Tuple es kk pos) is (gTp gs) := by
  refine PG.imp (pg_tup hc h hn hst) fun v σ H Q q => ?_
  obtain ⟨τ, ρ, G, d, k, rz, ρ', e, q⟩ := q
  cases d with
  | tup ds =>
    rw [Rz] at rz
    obtain ⟨a, xs, e1, e2, e3⟩ := rz
    exact ⟨a, xs, e1, Same.tup k.sub e2.t, by rw [e3.len]; exact hk _ _ _ e, τ, ρ, G, ds, k, e3, ρ', e, q⟩
  | _ => cases e
def dAsg (d : DEn) (g : D → Env → Option Env) : DSn := fun ρ => (d ρ).bind fun p => (ofO (g p.2 p.1)).bind fun ρ1 => .ok (ρ1, .nx)
theorem ds_asg {tg e : Expr} {is : List Nat} {d : DEn} {g : D → Env → Option Env} (h : DE X T W e d) (hg : DG X T W tg is g) (hs : swapsWithSole [tg] e pos.line X.env = pure false := by rfl) (hw : swappedStores [tg] e X.env = pure none := by rfl)
    (h1 : (assignEach [tg] X.env).map (·.2) = [assign tg X.env] := by rfl) : DS X T W (.Assign [tg] e pos) (dAsg d g) := by
  refine PS.imp (ps_asg h hg hs hw h1) fun D σ H q => ?_
  obtain ⟨τ, ρ, G, k, q⟩ := q
  refine ⟨τ, ρ, G, k, (OutS.bindE q).imp fun ρ1 r G1 H1 k1 fr1 q1 v rv => ?_⟩
  dsimp only at q1
  cases e1 : g r ρ1 with
  | some ρ2 =>
    rw [e1] at q1
    exact ⟨τ, ρ1, G1, r, k1, rv, ρ2, e1, fun σ2 k2 f2 _ => q1 σ2 G1 H1 k2 (fr1.trans f2)⟩
  | none => rw [e1] at q1; exact q1.elim
end
end Zd
end
section
/-! Zd 6: parallel stores, stores into lists, loops. -/
namespace Zd
open PySem PySem.Spec PyProof.Rows L2
set_option autoImplicit false

def setV : List Nat → List V → L2.St → L2.St
  | i :: is, v :: vs, σ => setV is vs (σ.set i (some v))
  | _, _, σ => σ
def setAll : List Nat → List Op → Env → Option Env
  | [], [], ρ => some ρ
  | i :: is, o :: os, ρ => (toB o).bind fun b => setAll is os (ρ.set i (some b))
  | _, _, _ => none
section
variable {K : PySem.W.Frag} {T : Tab} {W : WX} {τ : Nat → Addr} {ρ ρ' : Env} {σ σ' : L2.St} {G G' H H' : Hp}
/-- operands that wait to be stored -/
def RpB (K : PySem.W.Frag) (T : Tab) (ρ : Env) (σ : L2.St) (G H : Hp) (v : V) : Op → Prop
  | .v d => Rz K T G v d
  | .pl _ => True
  | .fr o => ∃ a, v = .ref a ∧ G a = none ∧ RO K T G H a o ∧ ¬ OwnAt ρ σ a
def RpBs (K : PySem.W.Frag) (T : Tab) (ρ : Env) (σ : L2.St) (G H : Hp) : List V → List Op → Prop
  | [], [] => True
  | v :: vs, o :: os => RpB K T ρ σ G H v o ∧ RpBs K T ρ σ G H vs os ∧ Apart v o vs os
  | _, _ => False
theorem RpOp.b {v : V} {o : Op} (h : RpOp K T ρ σ G H v o) : RpB K T ρ σ G H v o := by
  cases o with
  | v d => exact h
  | pl i => exact True.intro
  | fr o => exact h
theorem RpOps.bs : ∀ {vs : List V} {os : List Op}, RpOps K T ρ σ G H vs os → RpBs K T ρ σ G H vs os
  | [], [], _ => True.intro
  | _ :: _, _ :: _, h => ⟨h.1.b, RpOps.bs h.2.1, h.2.2⟩
  | [], _ :: _, h => h.elim
  | _ :: _, [], h => h.elim
theorem RpB.set {i : Nat} {w v : V} {b : B} {o op : Op} (h : RpB K T ρ σ G H v o) (e : toB op = some b) (ap : ∀ od od', op = .fr od → o = .fr od' → v ≠ w) : RpB K T (ρ.set i (some b)) (σ.set i (some w)) G H v o := by
  cases o with
  | v d => exact h
  | pl j => exact True.intro
  | fr o =>
    obtain ⟨a, e1, g, r, n⟩ := h
    refine ⟨a, e1, g, r, fun z => ?_⟩
    rcases own_set z with z | ⟨t, o', e2, e3⟩
    · exact n z
    · cases op with
      | v d => cases e; cases e2
      | pl j => cases e
      | fr od => exact ap od o rfl rfl (by rw [e1, e3])
theorem RpBs.set {i : Nat} {w : V} {b : B} {op : Op} (e : toB op = some b) : ∀ {vs : List V} {os : List Op}, RpBs K T ρ σ G H vs os → Apart w op vs os → RpBs K T (ρ.set i (some b)) (σ.set i (some w)) G H vs os
  | [], [], _, _ => True.intro
  | v :: vs, o :: os, h, ap => by
    refine ⟨h.1.set e fun od od' z1 z2 => ?_, RpBs.set e h.2.1 fun od z j od' ej => ?_, h.2.2⟩
    · have := ap od z1 0 od' (by rw [z2]; rfl)
      intro q
      exact this (by rw [q]; rfl)
    · have := ap od z (j + 1) od' (by rw [List.getElem?_cons_succ]; exact ej)
      rw [List.getElem?_cons_succ] at this
      exact this
  | [], _ :: _, h, _ => h.elim
  | _ :: _, [], h, _ => h.elim
theorem RpB.op {v : V} {o : Op} {b : B} (h : RpB K T ρ σ G H v o) (e : toB o = some b) : RpOp K T ρ σ G H v o := by
  cases o with
  | v d => exact h
  | pl i => cases e
  | fr o => exact h
theorem setAll_ok : ∀ {is : List Nat} {vs : List V} {os : List Op} {ρ ρ' : Env} {σ : L2.St} {ρ0 : Env} {σ0 : L2.St} {G0 H0 : Hp}, Ok K T τ ρ σ G H → RpBs K T ρ σ G H vs os → Fr ρ0 σ0 G0 H0 ρ σ G H → FreshVs H0 vs os → setAll is os ρ = some ρ' →
    Ok K T τ ρ' (setV is vs σ) G H ∧ Fr ρ0 σ0 G0 H0 ρ' (setV is vs σ) G H
  | [], [], [], ρ, ρ', σ, _, _, _, _, k, _, f, _, e => by cases e; exact ⟨k, f⟩
  | i :: is, v :: vs, o :: os, ρ, ρ', σ, ρ0, σ0, G0, H0, k, r, f, fv, e => by
    unfold setAll at e
    cases e1 : toB o with
    | none => rw [e1] at e; cases e
    | some b =>
      rw [e1] at e
      simp only [Option.bind_some] at e
      have k2 := k.setOp (i := i) (r.1.op e1) e1
      have f2 := f.setOp (i := i) (v := v) (op := o) (fun od z => by
        obtain ⟨a, q1, q2⟩ := fv 0 od (by rw [z]; rfl)
        exact ⟨a, by simpa using q1, q2⟩) e1
      exact setAll_ok (is := is) (vs := vs) (os := os) k2 (r.2.1.set e1 r.2.2) f2 (fun j od ej => by
        obtain ⟨a, q1, q2⟩ := fv (j + 1) od (by rw [List.getElem?_cons_succ]; exact ej)
        exact ⟨a, by rw [List.getElem?_cons_succ] at q1; exact q1, q2⟩) e
  | [], [], _ :: _, _, _, _, _, _, _, _, _, h, _, _, _ => h.elim
  | [], _ :: _, [], _, _, _, _, _, _, _, _, h, _, _, _ => h.elim
  | _ :: _, [], _ :: _, _, _, _, _, _, _, _, _, h, _, _, _ => h.elim
  | _ :: _, _ :: _, [], _, _, _, _, _, _, _, _, h, _, _, _ => h.elim
  | [], _ :: _, _ :: _, _, _, _, _, _, _, _, _, _, _, _, e => by cases e
  | _ :: _, [], [], _, _, _, _, _, _, _, _, _, _, _, e => by cases e
end
section
variable {X : Cx} {T : Tab} {W : WX} {pos : Pos}
/-! ### a, b, .. = x, y, .. -/
def dPar (is : List Nat) (a : DAn) : DSn := fun ρ => (a ρ).bind fun p => (ofO (setAll is p.2 p.1)).bind fun ρ1 => .ok (ρ1, .nx)
theorem tPar_of {K : PySem.W.Frag} {is : List Nat} {a : DAn} (D : Ends) (σ : L2.St) (H : Hp) (q : tS K T W (dPar is a) D σ H) : tA K T W a σ H fun vs H1 => vs.length = is.length ∧ ∀ H2, Same H1 H2 → D.nx (setV is vs σ) H2 := by
  obtain ⟨τ, ρ, G, k, q⟩ := q
  refine ⟨τ, ρ, G, k, (OutS.bindE q).imp fun ρ1 ops G1 H1 k1 fr1 q1 vs rvs fvs => ?_⟩
  dsimp only at q1
  cases e1 : setAll is ops ρ1 with
  | none => rw [e1] at q1; exact q1.elim
  | some ρ2 =>
    rw [e1] at q1
    have hl : ∀ {is : List Nat} {os : List Op} {ρ ρ' : Env}, setAll is os ρ = some ρ' → os.length = is.length := by
      intro is
      induction is with
      | nil => intro os ρ ρ' e; cases os <;> first | rfl | cases e
      | cons i is ih =>
        intro os ρ ρ' e
        cases os with
        | nil => cases e
        | cons o os =>
          unfold setAll at e
          cases h : toB o with
          | none => rw [h] at e; cases e
          | some b => rw [h] at e; rw [List.length_cons, List.length_cons, ih e]
    have hv : ∀ {vs : List V} {os : List Op}, RpBs K T ρ1 σ G1 H1 vs os → vs.length = os.length := by
      intro vs
      induction vs with
      | nil => intro os h; cases os <;> first | rfl | exact h.elim
      | cons v vs ih =>
        intro os h
        cases os with
        | nil => exact h.elim
        | cons o os => rw [List.length_cons, List.length_cons, ih h.2.1]
    refine ⟨(hv rvs.bs).trans (hl e1), fun H2 s2 => ?_⟩
    have n : New T G1 H1 G1 H2 := New.of (Same.refl _) s2 (k1.sub.trans s2) (fun _ _ _ => rfl) (fun _ _ h => h)
    have rb : RpBs K T ρ1 σ G1 H2 vs ops := by
      have go : ∀ {vs : List V} {os : List Op}, RpBs K T ρ1 σ G1 H1 vs os → RpBs K T ρ1 σ G1 H2 vs os := by
        intro vs
        induction vs with
        | nil => intro os h; cases os <;> first | trivial | exact h.elim
        | cons v vs ih =>
          intro os h
          cases os with
          | nil => exact h.elim
          | cons o os =>
            refine ⟨?_, ih h.2.1, h.2.2⟩
            cases o with
            | v d => exact h.1
            | pl i => exact True.intro
            | fr o =>
              obtain ⟨a, z1, z2, z3, z4⟩ := h.1
              exact ⟨a, z1, z2, z3.mono (Same.refl _) fun u hu _ => s2 _ _ hu, z4⟩
      exact go rvs.bs
    obtain ⟨k2, f2⟩ := setAll_ok (k1.new n) rb (fr1.trans n.fr) fvs e1
    exact q1 _ G1 H2 k2 f2
theorem ds_par2 {i j : Nat} {x y : Str} {a b : Expr} {da : DAn} {px py pt : Pos} {kt k2 pt2} (hc : X.calm = true) (hN : X.N.Nodup) (ha : DA X T W [a, b] da) (hi : X.N[i]? = some x := by rfl) (hj : X.N[j]? = some y := by rfl) (hij : i ≠ j := by decide)
    (hx : X.env.scope.names.lookup x = some .local := by rfl) (hy : X.env.scope.names.lookup y = some .local := by rfl)
    (hw : swappedStores [.Tuple [.Name x px, .Name y py] kt pt] (.Tuple [a, b] k2 pt2) X.env = pure (some [x, y]) := by rfl)
    (hs : swapsWithSole [.Tuple [.Name x px, .Name y py] kt pt] (.Tuple [a, b] k2 pt2) pos.line X.env = pure false := by rfl) :
    DS X T W (.Assign [.Tuple [.Name x px, .Name y py] kt pt] (.Tuple [a, b] k2 pt2) pos) (dPar [i, j] da) := by
  refine PS.imp (ps_par hc hN hi hj hij hx hy ha hw hs) fun D σ H q => ?_
  obtain ⟨τ, ρ, G, k, q⟩ := tPar_of D σ H q
  refine ⟨τ, ρ, G, k, q.imp fun ρ1 ops G1 H1 k1 fr1 q1 vs rvs fvs => ?_⟩
  obtain ⟨hl, q2⟩ := q1 vs rvs fvs
  match vs, hl with
  | [v, w], _ => exact ⟨v, w, rfl, q2 H1 (Same.refl _)⟩
theorem ds_par3 {i j l : Nat} {x y z : Str} {a b c : Expr} {da : DAn} {px py pz pt : Pos} {kt k2 pt2} (hc : X.calm = true) (hN : X.N.Nodup) (ha : DA X T W [a, b, c] da) (hi : X.N[i]? = some x := by rfl) (hj : X.N[j]? = some y := by rfl) (hl : X.N[l]? = some z := by rfl)
    (hij : i ≠ j := by decide) (hil : i ≠ l := by decide) (hjl : j ≠ l := by decide)
    (hx : X.env.scope.names.lookup x = some .local := by rfl) (hy : X.env.scope.names.lookup y = some .local := by rfl) (hz : X.env.scope.names.lookup z = some .local := by rfl)
    (hw : swappedStores [.Tuple [.Name x px, .Name y py, .Name z pz] kt pt] (.Tuple [a, b, c] k2 pt2) X.env = pure (some [x, y, z]) := by rfl)
    (hs : swapsWithSole [.Tuple [.Name x px, .Name y py, .Name z pz] kt pt] (.Tuple [a, b, c] k2 pt2) pos.line X.env = pure false := by rfl) :
    DS X T W (.Assign [.Tuple [.Name x px, .Name y py, .Name z pz] kt pt] (.Tuple [a, b, c] k2 pt2) pos) (dPar [i, j, l] da) := by
  refine PS.imp (ps_par3 hc hN hi hj hl hij hil hjl hx hy hz ha hw hs) fun D σ H q => ?_
  obtain ⟨τ, ρ, G, k, q⟩ := tPar_of D σ H q
  refine ⟨τ, ρ, G, k, q.imp fun ρ1 ops G1 H1 k1 fr1 q1 vs rvs fvs => ?_⟩
  obtain ⟨hl, q2⟩ := q1 vs rvs fvs
  match vs, hl with
  | [u, v, w], _ => exact ⟨u, v, w, rfl, q2 H1 (Same.refl _)⟩
/-- names in a row as targets -/
def tNms (is : List Nat) : TGs := fun vs σ H Q => vs.length = is.length ∧ Q (setV is vs σ) H
theorem nms_nil : PGs X [] (tNms []) := by
  refine PGs.imp pgs_nil fun vs σ H Q q => ?_
  obtain ⟨hl, q⟩ := q
  cases vs with
  | nil => exact ⟨rfl, q⟩
  | cons v vs => cases hl
theorem nms_cons {i : Nat} {is : List Nat} {x : Str} {es : List Expr} {p : Pos} (hN : X.N.Nodup) (r : PGs X es (tNms is)) (hi : X.N[i]? = some x := by rfl) (hx : Loc X.env.scope x := by first | exact .inl rfl | exact .inr rfl)
    (hf : X.fn x = true ∨ X.env.scope.names.lookup x = some .local := by first | exact .inl rfl | exact .inr rfl) (hs : (assignEach (.Name x p :: es) X.env).map (·.2) = assign (.Name x p) X.env :: (assignEach es X.env).map (·.2) := by rfl) : PGs X (.Name x p :: es) (tNms (i :: is)) := by
  refine PGs.imp (pgs_cons (pg_name hN hi hx hf) r hs) fun vs σ H Q q => ?_
  obtain ⟨hl, q⟩ := q
  cases vs with
  | nil => cases hl
  | cons v vs => exact ⟨v, vs, rfl, by simpa using hl, q⟩
/-- .. where the tuple is made and taken apart -/
theorem ds_parN {is : List Nat} {ts es : List Expr} {da : DAn} {kt k2 : Nat} {pt pt2 : Pos} (hc : X.calm = true) (h : PGs X ts (tNms is)) (ha : DA X T W es da) (hz : is.length ≤ 1000 := by decide)
    (hn : (assignEach ts X.env).length = is.length := by rfl) (hst : (assignEach ts X.env).findIdx? (·.1) = none := by rfl)
    (hs : swapsWithSole [.Tuple ts kt pt] (.Tuple es k2 pt2) pos.line X.env = pure false := by rfl) (hw : swappedStores [.Tuple ts kt pt] (.Tuple es k2 pt2) X.env = pure none := by rfl)
    (h1 : (assignEach [.Tuple ts kt pt] X.env).map (·.2) = [assign (.Tuple ts kt pt) X.env] := by rfl) : DS X T W (.Assign [.Tuple ts kt pt] (.Tuple es k2 pt2) pos) (dPar is da) := by
  refine PS.imp (ps_asg (pe_tup ha) (pg_tup hc h hn hst) hs hw h1) fun D σ H q => ?_
  obtain ⟨τ, ρ, G, k, q⟩ := tPar_of D σ H q
  refine ⟨τ, ρ, G, k, q.imp fun ρ1 ops G1 H1 k1 fr1 q1 vs rvs fvs => ?_⟩
  obtain ⟨hl, q2⟩ := q1 vs rvs fvs
  refine ⟨line_of (by omega), fun p hp => ?_⟩
  exact ⟨p, vs, rfl, .inl (.inl upd_same), hl, hl, q2 _ (Same.upd hp)⟩

/-! ### x[i] = e, x.append(e), x op= e -/
def isOwn (b : Option (Option B)) : Bool := match b with
  | some (some (.own _ (.lst _))) => true
  | _ => false
def dSetIx (i : Nat) (di dv : DEn) : DSn := fun ρ => (dv ρ).bind fun p => if isOwn p.1[i]? = true then (di p.1).bind fun q => match q.1[i]?, q.2 with
  | some (some (.own t (.lst ds))), .int k => (ofO (ixN ds.length k)).bind fun j => .ok (q.1.set i (some (.own t (.lst (ds.set j p.2)))), .nx)
  | _, _ => .bad
  else .bad
theorem isOwn_slot {K : PySem.W.Frag} {τ : Nat → Addr} {ρ : Env} {σ : L2.St} {G H : Hp} (k : Ok K T τ ρ σ G H) {i : Nat} (e : isOwn ρ[i]? = true) : ∃ a xs, σ[i]? = some (some (V.ref a)) ∧ H a = some (.lst xs) := by
  unfold isOwn at e
  split at e
  · rename_i t ds h
    obtain ⟨a, q, g, ⟨xs, h1, h2⟩, _⟩ := k.own i t _ h
    exact ⟨a, xs, q, h1⟩
  · cases e
theorem ds_setIx {i : Nat} {x : Str} {e ix : Expr} {di dv : DEn} {px ps : Pos} (ho : PE X (.Name x px) (tVar i)) (hi : DE X T W ix di) (hv : DE X T W e dv)
    (ha : ∀ v, assign (.Subscript (.Name x px) ix ps) X.env v = (do
      let ov ← holding [v] (eval (.Name x px) X.env)
      let iv ← holding [v, ov] (eval ix X.env)
      standAt ps
      holding [v, ov, iv] (setItem ov iv v)
      release [v, ov, iv] []) := by intro _; rfl)
    (hs : swapsWithSole [.Subscript (.Name x px) ix ps] e pos.line X.env = pure false := by rfl) (hw : swappedStores [.Subscript (.Name x px) ix ps] e X.env = pure none := by rfl)
    (h1 : (assignEach [.Subscript (.Name x px) ix ps] X.env).map (·.2) = [assign (.Subscript (.Name x px) ix ps) X.env] := by rfl) : DS X T W (.Assign [.Subscript (.Name x px) ix ps] e pos) (dSetIx i di dv) := by
  refine PS.imp (ps_asg hv (pg_sub ho hi set_list ha) hs hw h1) fun D σ H q => ?_
  obtain ⟨τ, ρ, G, k, q⟩ := q
  refine ⟨τ, ρ, G, k, (OutS.bindE q).imp fun ρ1 r G1 H1 k1 fr1 q1 v rv => ?_⟩
  dsimp only at q1
  by_cases ho : isOwn ρ1[i]? = true
  · rw [if_pos ho] at q1
    obtain ⟨a, xs0, hsl, _⟩ := isOwn_slot k1 ho
    refine ⟨_, hsl, τ, ρ1, G1, k1, (OutS.bindE (OutS.shift fr1 q1)).imp fun ρ2 r2 G2 H2 k2 fr2 q2 w rw' => ?_⟩
    dsimp only at q2
    split at q2
    · rename_i t ds kk h2
      obtain ⟨b, e1, g, ⟨xs, e2, e3⟩, ht⟩ := k2.own i t _ h2
      rw [hsl] at e1
      have e1' : V.ref a = V.ref b := by injection e1 with e1; injection e1
      cases e1'
      cases e4 : ixN ds.length kk with
      | none => rw [e4] at q2; exact q2.elim
      | some j =>
        rw [e4] at q2
        have hw2 : w = .int kk := Rb.int (G := G2) (H := H2) (.inl rw')
        refine ⟨a, xs, kk, j, rfl, hw2, e2, by rw [e3.len]; exact e4, ?_⟩
        obtain ⟨k3, f3⟩ := k2.updOwn (o' := .lst (ds.set j r)) (u := .lst (xs.set j v)) h2 hsl g ht ⟨_, upd_same, e3.set (rv.mono fr2.gro) j⟩
        exact q2 σ G2 _ k3 (fr2.trans f3)
    · exact q2.elim
  · rw [if_neg ho] at q1; exact q1.elim
/-- x.append(e) -/
def dApp (i : Nat) (d : DEn) : DSn := fun ρ => if isOwn ρ[i]? = true then (d ρ).bind fun p => match p.1[i]? with
  | some (some (.own t (.lst ds))) => sz (ds.length + 1) (.ok (p.1.set i (some (.own t (.lst (ds ++ [p.2])))), .nx))
  | _ => .bad
  else .bad
theorem lt_line {n : Nat} (h : n + 1 ≤ 1000000) : n < sizeLine := by rw [sizeLine_eq]; omega
theorem ds_app {i : Nat} {x : Str} {e : Expr} {d : DEn} {px apos cpos : Pos} (ho : PE X (.Name x px) (tVar i)) (h : DE X T W e d)
    (hbase : attributeBase (.Name x px) "append" X.env (eval (.Name x px) X.env) = eval (.Name x px) X.env := by rfl)
    (hfew : ((backTo cpos (starEach (e :: []) X.env)).all (fun x => !x.1) && (backToKw cpos (keywordEach [] X.env)).all (fun x => x.1.isSome)
      && decide ((e :: []).length + ([] : List Keyword).length + (if ([] : List Keyword).isEmpty then 0 else 1) < 30)) = true := by rfl)
    (hline : (apos.endLine == cpos.line) = true := by rfl) (hs : starEach (e :: []) X.env = (false, eval e X.env) :: starEach [] X.env := by rfl) (hplain : (backTo cpos (starEach [] X.env)).any (·.1) = false := by rfl)
    (hsw : swapsWith (.Call (.Attribute (.Name x px) "append" apos) [e] [] cpos) none pos.line X.env = pure false := by rfl) :
    DS X T W (.Expr (.Call (.Attribute (.Name x px) "append" apos) [e] [] cpos) pos) (dApp i d) := by
  refine PS.imp (ps_expr (pe_bm PySem.F.plainAttrs_list PySem.F.slot_list_append PySem.F.type_list_append mt_append ho (pa_cons h pa_nil hs) hbase hfew hline hs hplain) hsw) fun D σ H q => ?_
  obtain ⟨τ, ρ, G, k, q⟩ := q
  unfold dApp at q
  by_cases ho : isOwn ρ[i]? = true
  · rw [if_pos ho] at q
    obtain ⟨a, xs0, hsl, hx0⟩ := isOwn_slot k ho
    refine ⟨_, hsl, .inl ⟨rfl, xs0, SqL.of hx0⟩, τ, ρ, G, k, (OutS.bindE q).imp fun ρ1 r G1 H1 k1 fr1 q1 v rv => ?_⟩
    dsimp only at q1
    split at q1
    · rename_i t ds h2
      obtain ⟨b, e1, g, ⟨xs, e2, e3⟩, ht⟩ := k1.own i t _ h2
      rw [hsl] at e1
      have e1' : V.ref a = V.ref b := by injection e1 with e1; injection e1
      cases e1'
      by_cases hz : ds.length + 1 ≤ 1000000
      · rw [sz_ok hz] at q1
        refine ⟨a, xs, v, rfl, rfl, e2, lt_line (by rw [e3.len]; exact hz), ?_⟩
        obtain ⟨k3, f3⟩ := k1.updOwn (o' := .lst (ds ++ [r])) (u := .lst (xs ++ [v])) h2 hsl g ht ⟨_, upd_same, e3.append (RzL.cons rv RzL.nil)⟩
        exact q1 σ G1 _ k3 (fr1.trans f3)
      · unfold sz at q1; rw [if_neg hz] at q1; exact q1.elim
    · exact q1.elim
  · rw [if_neg ho] at q; exact q.elim
/-- x op= e, x a value -/
def dAug (i : Nat) (f : D → D → Option D) (d : DEn) : DSn := fun ρ => match ρ[i]? with
  | some (some (.val a)) => (d ρ).bind fun p => (ofO (f a p.2)).bind fun r => .ok (p.1.set i (some (.val r)), .nx)
  | _ => .bad
theorem ds_aug {i : Nat} {x : Str} {e : Expr} {op : Operator} {ti : TIp} {f : D → D → Option D} {d : DEn} {px : Pos} (hN : X.N.Nodup) (hs : Snd2 X.K T ti f) (ho : PIp X op ti) (h : DE X T W e d) (hi : X.N[i]? = some x := by rfl) (hx : Loc X.env.scope x := by first | exact .inl rfl | exact .inr rfl)
    (hf : X.fn x = true ∨ X.env.scope.names.lookup x = some .local := by first | exact .inl rfl | exact .inr rfl) : DS X T W (.AugAssign (.Name x px) op e pos) (dAug i f d) := by
  refine PS.imp (ps_aug hN hi hx h ho hf) fun D σ H q => ?_
  obtain ⟨τ, ρ, G, k, q⟩ := q
  unfold dAug at q
  split at q
  · rename_i a h1
    obtain ⟨v0, hsl, r0⟩ := k.val i a h1
    refine ⟨v0, hsl, τ, ρ, G, k, (OutS.bindE q).imp fun ρ1 r G1 H1 k1 fr1 q1 v rv => ?_⟩
    dsimp only at q1
    cases e1 : f a r with
    | none => rw [e1] at q1; exact q1.elim
    | some z =>
      rw [e1] at q1
      refine hs v0 v a r z G1 H1 _ k1.sub (.inl (r0.mono fr1.gro)) (.inl rv) e1 fun u G2 H2 n rz => ?_
      exact q1 _ G2 H2 ((k1.new n).setOp (op := .v z) rz rfl) ((fr1.trans n.fr).setOp (op := .v z) (fun _ z => nomatch z) rfl)
  · exact q.elim
theorem ds_augAdd {i : Nat} {x : Str} {e : Expr} {d : DEn} {px : Pos} (hN : X.N.Nodup) (h : DE X T W e d) (hi : X.N[i]? = some x := by rfl) (hx : Loc X.env.scope x := by first | exact .inl rfl | exact .inr rfl)
    (hf : X.fn x = true ∨ X.env.scope.names.lookup x = some .local := by first | exact .inl rfl | exact .inr rfl) : DS X T W (.AugAssign (.Name x px) .Add e pos) (dAug i (i0D fun i j => .int (i + j)) d) :=
  ds_aug hN (snd_rI0 (g := fun i j => .int (i + j)) fun _ _ _ => Rz.int_) ip_add h hi hx hf

/-! ### while -/
def wl (t : DTn) (b : DSn) : Nat → DSn
  | 0, _ => .bad
  | n + 1, ρ => (t ρ).bind fun p => if p.2 = true then (b p.1).bind fun q => match q.2 with
    | .nx => wl t b n q.1
    | .ct => wl t b n q.1
    | .bk => .ok (q.1, .nx)
    | .rt d => .ok (q.1, .rt d)
    else .ok (p.1, .nx)
theorem ds_while {c : Expr} {body : List Stmt} {t : DTn} {b : DSn} (n : Nat) (hp : PassesOwn (model X.prog X.w) X.A X.env X.xe) (hc : DT X T W c t) (hb : DSs X T W body b) : DS X T W (.While c body [] pos) (wl t b n) := by
  refine PS.imp (ps_while hp hc hb) fun D σ H q => ?_
  refine ⟨fun m σ H => tS X.K T W (wl t b m) D σ H, ⟨n, q⟩, fun m σ H q => ?_⟩
  obtain ⟨τ, ρ, G, k, q⟩ := q
  cases m with
  | zero => exact q.elim
  | succ m =>
    have q0 : OutS X.K T W τ ρ σ G H ((t ρ).bind fun p => if p.2 = true then (b p.1).bind fun q => match q.2 with
      | .nx => wl t b m q.1
      | .ct => wl t b m q.1
      | .bk => .ok (q.1, .nx)
      | .rt d => .ok (q.1, .rt d)
      else .ok (p.1, .nx)) D := q
    refine ⟨τ, ρ, G, k, (OutS.bindE q0).imp fun ρ1 r G1 H1 k1 fr1 q1 => ?_⟩
    dsimp only at q1
    cases r with
    | false => rw [if_neg Bool.false_ne_true] at q1 ⊢; exact q1 σ G1 H1 k1 fr1
    | true =>
      rw [if_pos rfl] at q1 ⊢
      refine ⟨fun σ' H' => tS X.K T W (wl t b m) D σ' H', fun σ' H' h => ⟨m, Nat.lt_succ_self _, h⟩, τ, ρ1, G1, k1, ?_⟩
      have q2 := OutS.shift fr1 q1
      cases e : b ρ1 with
      | bad => rw [e] at q2; exact q2.elim
      | ex ρ2 x => rw [e] at q2; exact q2
      | ok p =>
        rw [e] at q2
        obtain ⟨ρ2, f⟩ := p
        cases f with
        | nx => exact fun σ2 G2 H2 k2 f2 => ⟨τ, ρ2, G2, k2, OutS.shift f2 q2⟩
        | ct => exact fun σ2 G2 H2 k2 f2 => ⟨τ, ρ2, G2, k2, OutS.shift f2 q2⟩
        | bk => exact fun σ2 G2 H2 k2 f2 => q2 σ2 G2 H2 k2 f2
        | rt d => exact fun v σ2 G2 H2 k2 f2 rz => q2 v σ2 G2 H2 k2 f2 rz

/-! ### for -/
abbrev DIn := Env → R (Env × List D)
/-- what an iterator yields, over any later heap -/
def Walks_ (K : PySem.W.Frag) (T : Tab) (J : It) (G0 : Hp) (items : List D) : Prop := ∀ i G H, Same G0 G → Same G H →
  (∀ d, items[i]? = some d → J.go i H ∧ ∀ x H', J.yld i H x H' → ∃ G', New T G H G' H' ∧ Rz K T G' x d) ∧ (i = items.length → J.stop i H)
def tI (K : PySem.W.Frag) (T : Tab) (W : WX) (d : DIn) : TI := fun σ H R => ∃ τ ρ G, Ok K T τ ρ σ G H ∧ Out K T W τ ρ σ G H (d ρ) fun _ items G' H' => ∀ J, Walks_ K T J G' items → R J H'
def DI (X : Cx) (T : Tab) (W : WX) (tg iter : Expr) (d : DIn) : Prop := PI X tg iter (tI X.K T W d)
theorem PI.imp {tg iter : Expr} {t t' : TI} (h : PI X tg iter t) (i : ∀ σ H Q, t' σ H Q → t σ H Q) : PI X tg iter t' := ⟨fun pins s σ H Q I q => h.run pins s σ H Q I (i _ _ _ q)⟩
def fl (g : D → Env → Option Env) (b : DSn) : List D → DSn
  | [], ρ => .ok (ρ, .nx)
  | d :: ds, ρ => (ofO (g d ρ)).bind fun ρ1 => (b ρ1).bind fun q => match q.2 with
    | .nx => fl g b ds q.1
    | .ct => fl g b ds q.1
    | .bk => .ok (q.1, .nx)
    | .rt d => .ok (q.1, .rt d)
def dFor (di : DIn) (g : D → Env → Option Env) (b : DSn) : DSn := fun ρ => (di ρ).bind fun p => fl g b p.2 p.1
theorem ds_for {tg iter : Expr} {is : List Nat} {body : List Stmt} {di : DIn} {g : D → Env → Option Env} {b : DSn} (hp : PassesOwn (model X.prog X.w) X.A X.env X.xe) (hc : X.calm = true) (hi : DI X T W tg iter di) (hg : DG X T W tg is g) (hb : DSs X T W body b)
    (hs : ∀ x, foldedSetIterable iter X.env x = pure x := by intro _; rfl) : DS X T W (.For tg iter body [] pos) (dFor di g b) := by
  refine PS.imp (ps_for hp hc hi hg hb hs) fun D σ H q => ?_
  obtain ⟨τ, ρ, G, k, q⟩ := q
  refine ⟨τ, ρ, G, k, (OutS.bindE q).imp fun ρ1 items G1 H1 k1 fr1 q1 J wk => ?_⟩
  have q2 := OutS.shift fr1 q1
  refine ⟨fun i m σ H => m = items.length - i ∧ i ≤ items.length ∧ ∃ ρ G, Same G1 G ∧ Ok X.K T τ ρ σ G H ∧ OutS X.K T W τ ρ σ G H (fl g b (items.drop i) ρ) D, ⟨_, rfl, Nat.zero_le _, ρ1, G1, Same.refl _, k1, by rw [List.drop_zero]; exact q2⟩, fun i m σ H hW => ?_⟩
  obtain ⟨rfl, hi, ρ2, G2, sg, k2, q3⟩ := hW
  obtain ⟨go, stop⟩ := wk i G2 H sg k2.sub
  by_cases hlt : i < items.length
  · have hd : items[i]? = some items[i] := List.getElem?_eq_getElem hlt
    obtain ⟨h1, h2⟩ := go _ hd
    rw [List.drop_eq_getElem_cons hlt] at q3
    have q4 : OutS X.K T W τ ρ2 σ G2 H ((ofO (g items[i] ρ2)).bind fun ρ1 => (b ρ1).bind fun q => match q.2 with
      | .nx => fl g b (items.drop (i + 1)) q.1
      | .ct => fl g b (items.drop (i + 1)) q.1
      | .bk => .ok (q.1, .nx)
      | .rt d => .ok (q.1, .rt d)) D := q3
    refine .inr ⟨h1, fun σ' H' => ∃ ρ G, Same G1 G ∧ Ok X.K T τ ρ σ' G H' ∧ OutS X.K T W τ ρ σ' G H' (fl g b (items.drop (i + 1)) ρ) D, fun σ' H' hN => ⟨items.length - (i + 1), by omega, rfl, hlt, hN⟩, fun x H' hy => ?_⟩
    obtain ⟨G3, n, rz⟩ := h2 x H' hy
    have k3 := k2.new n
    cases e : g items[i] ρ2 with
    | none => rw [e] at q4; exact q4.elim
    | some ρ3 =>
      rw [e] at q4
      refine ⟨τ, ρ2, G3, items[i], k3, rz, ρ3, e, fun σ3 k4 f4 _ => ?_⟩
      have q5 := OutS.shift (n.fr.trans f4) q4
      dsimp only [ofO_some, R.bind_ok] at q5
      refine ⟨τ, ρ3, G3, k4, ?_⟩
      have sg3 : Same G1 G3 := sg.trans n.gro
      cases e2 : b ρ3 with
      | bad => rw [e2] at q5; exact q5.elim
      | ex ρ4 x => rw [e2] at q5; exact q5
      | ok p =>
        rw [e2] at q5
        obtain ⟨ρ4, f⟩ := p
        cases f with
        | nx => exact fun σ5 G5 H5 k5 f5 => ⟨ρ4, G5, sg3.trans f5.gro, k5, OutS.shift f5 q5⟩
        | ct => exact fun σ5 G5 H5 k5 f5 => ⟨ρ4, G5, sg3.trans f5.gro, k5, OutS.shift f5 q5⟩
        | bk => exact fun σ5 G5 H5 k5 f5 => q5 σ5 G5 H5 k5 f5
        | rt d => exact fun v σ5 G5 H5 k5 f5 rz => q5 v σ5 G5 H5 k5 f5 rz
  · have e : i = items.length := by omega
    subst e
    rw [List.drop_length] at q3
    exact .inl ⟨stop rfl, q3 σ G2 H k2 Fr.refl⟩
end
end Zd
end
section
/-! Zd 7: what a loop walks: lists and tuples, ranges, enumerate and zip over both kinds. -/
namespace Zd
open PySem PySem.Spec PyProof.Rows L2
set_option autoImplicit false
/-! ### lists and tuples alike: b = true a tuple -/
def Sq (K : PySem.W.Frag) (H : Hp) (b : Bool) (a : Addr) (xs : List V) : Prop := match b with
  | true => SqT K H a xs
  | false => SqL K H a xs
def IsSq (b : Bool) (h : Heap) (a : Addr) (items : Array Value) : Prop := match b with
  | true => h.IsTuple a items
  | false => h.IsList a items
def IsIt (b : Bool) (h : Heap) (it a : Addr) (i : Nat) : Prop := match b with
  | true => h.IsTupleIter it a i
  | false => h.IsListIter it a i
def itOb (b : Bool) (a : Addr) : Obj := match b with
  | true => { cls := .type "tuple_iterator", data := .fields #[.ref a, .int 0 0] }
  | false => { cls := .type "list_iterator", data := .fields #[.ref a, .int 0 0] }
theorem begins_sq (b : Bool) (a : Addr) (items : Array Value) : Begins (.ref a) (itOb b a) fun h => IsSq b h a items := by
  cases b with
  | true => exact begins_tuple a items
  | false => exact begins_list a items
theorem IsIt.new {b : Bool} {h : Heap} {it a : Addr} (e : h.get? it = some (itOb b a)) : IsIt b h it a 0 := by
  cases b with
  | true => exact ⟨_, e, rfl, rfl⟩
  | false => exact ⟨_, e, rfl, rfl⟩
theorem IsIt.at' {b : Bool} {h h' : Heap} {it a : Addr} {i : Nat} (x : IsIt b h it a i) (k : ∀ o, h.get? it = some o → h'.get? it = some o) : IsIt b h' it a i := by
  cases b with
  | true => exact Heap.IsTupleIter.at x k
  | false => exact Heap.IsListIter.at x k
theorem IsIt.ob {b : Bool} {h : Heap} {it a : Addr} {i : Nat} (x : IsIt b h it a i) : ∃ o, h.get? it = some o ∧ o.cls = .type (if b then "tuple_iterator" else "list_iterator") ∧ ∀ v, o.data ≠ .cell v := by
  cases b with
  | true => obtain ⟨o, h1, h2, h3⟩ := x; exact ⟨o, h1, h2, fun v q => by rw [h3] at q; cases q⟩
  | false => obtain ⟨o, h1, h2, h3⟩ := x; exact ⟨o, h1, h2, fun v q => by rw [h3] at q; cases q⟩
theorem IsSq.ob {b : Bool} {h : Heap} {a : Addr} {items : Array Value} (x : IsSq b h a items) : ∃ o, h.get? a = some o ∧ o.cls = .type (if b then "tuple" else "list") := by
  cases b with
  | true => obtain ⟨o, h1, h2, _⟩ := x; exact ⟨o, h1, h2⟩
  | false => obtain ⟨o, h1, h2, _⟩ := x; exact ⟨o, h1, h2⟩
theorem sq_ne_it {b c : Bool} {h : Heap} {a l it : Addr} {i : Nat} {items : Array Value} (x : IsSq b h a items) (y : IsIt c h it l i) : a ≠ it := fun e => by
  obtain ⟨o, h1, h2⟩ := x.ob
  obtain ⟨o', h3, h4, _⟩ := y.ob
  rw [e, h3] at h1; cases h1
  rw [h4] at h2
  revert h2
  cases b <;> cases c <;> decide
theorem sq_ne_cls {b : Bool} {h : Heap} {a e : Addr} {items : Array Value} {o : Obj} (x : IsSq b h a items) (he : h.get? e = some o) (h1 : o.cls ≠ .type "tuple") (h2 : o.cls ≠ .type "list") : a ≠ e := fun z => by
  obtain ⟨o', q1, q2⟩ := x.ob
  rw [z, he] at q1; cases q1
  cases b
  · exact h2 q2
  · exact h1 q2
theorem it_ne_cls {b : Bool} {h : Heap} {a it e : Addr} {i : Nat} {o : Obj} (x : IsIt b h it a i) (he : h.get? e = some o) (h1 : o.cls ≠ .type "tuple_iterator") (h2 : o.cls ≠ .type "list_iterator") : e ≠ it := fun z => by
  obtain ⟨o', q1, q2, _⟩ := x.ob
  rw [← z, he] at q1; cases q1
  cases b
  · exact h2 q2
  · exact h1 q2
theorem draws_sq {prog : Program} {w : World} {A : Around} (hh : A.handled = none) (b : Bool) (it l : Addr) (hne : l ≠ it) (items : Array Value) :
    Draws prog w A it [it, l] items.size (fun i v => items[i]? = some v) (fun i h => IsIt b h it l i ∧ IsSq b h l items) := by
  cases b with
  | true => exact Draws.tuple hh it l hne items
  | false => exact Draws.list hh it l hne items
section
variable {X : Cx} {pins : List (Addr × Obj)} {σ : L2.St} {H : Hp} {s : Shared}
theorem inv_sq (I : Inv X pins σ H s) {b : Bool} {a : Addr} {xs : List V} (h : Sq X.K H b a xs) : ∃ its : List Value, Vals xs its ∧ IsSq b s.heap a its.toArray ∧ xs.length ≤ sizeLine := by
  cases b with
  | true => obtain ⟨its, r, p, z⟩ := I.tuple h; exact ⟨its, r, p, z⟩
  | false => obtain ⟨its, r, p, z⟩ := I.list h; exact ⟨its, r, p.isList, z⟩
theorem sq_inj (I : Inv X pins σ H s) {b : Bool} {a : Addr} {xs ys : List V} (h : Sq X.K H b a xs) (h' : Sq X.K H b a ys) : xs = ys := by
  cases b with
  | true => exact I.tuple_inj h h'
  | false => exact I.list_inj h h'
end
theorem Sq.mono {K : PySem.W.Frag} {H H' : Hp} {b : Bool} {a : Addr} {xs : List V} (e : Same H H') (h : Sq K H b a xs) : Sq K H' b a xs := by
  cases b with
  | true => exact Same.tup e h
  | false => exact e.seq h

/-! ### enumerate -/
def IteB (K : PySem.W.Frag) (b : Bool) (a : Addr) : It :=
  ⟨fun i H => ∃ (xs : List V) (x : V), Sq K H b a xs ∧ xs[i]? = some x, fun i H v H' => ∃ T x, ∃ o : Obj, v = .ref T ∧ H T = none ∧ o.dict = none ∧ H' = upd H T (.frz o (.tup [.int (i : Nat), x])) ∧ ∀ xs, Sq K H b a xs → xs[i]? = some x, fun i H => ∃ xs : List V, Sq K H b a xs ∧ xs.length = i⟩
theorem turn_enumB {P : Program} {w : World} {K : PySem.W.Frag} {elts : List Expr} {kk : Nat} {tpos : Pos} (b : Bool) (a e it : Addr) :
    Turn P w K (.Tuple elts kk tpos) (IteB K b a) [e, it] e (fun i h => (∃ old, IsEnum h e it ((i : Nat) : Int) old) ∧ IsIt b h it a i) where
  mem := by simp
  obj := fun i h st c hb => by
    obtain ⟨⟨old, he⟩, hi⟩ := st
    have e' : c = e ∨ c = it := by simpa using hb
    rcases e' with z | z
    · rw [z]; exact ⟨_, he, fun v q => nomatch q⟩
    · obtain ⟨o, h1, _, h3⟩ := hi.ob
      rw [z]; exact ⟨o, h1, h3⟩
  keep := fun i h h' st k => let ⟨⟨old, he⟩, hi⟩ := st; ⟨⟨old, k e (by simp) _ he⟩, hi.at' fun o q => k it (by simp) o q⟩
  item := by
    intro X hP hw hK hc i pins s σ H E I hf st hg
    subst hP hw hK
    obtain ⟨⟨old, he⟩, hit⟩ := st
    obtain ⟨xs, x, hq, hx⟩ := hg
    obtain ⟨its, rv, p, hz⟩ := inv_sq I hq
    have hl := rv.length
    have hlt : i < its.length := by
      have := (List.getElem?_eq_some_iff.mp hx).1
      omega
    have hai : a ≠ it := sq_ne_it p hit
    have hei : e ≠ it := it_ne_cls hit he (by show Value.type "enumerate" ≠ .type "tuple_iterator"; decide) (by show Value.type "enumerate" ≠ .type "list_iterator"; decide)
    have hea : a ≠ e := sq_ne_cls p he (by show Value.type "enumerate" ≠ .type "tuple"; decide) (by show Value.type "enumerate" ≠ .type "list"; decide)
    have hel : e < s.heap.objs.size := Heap.lt_size he
    refine wpAny_pyNext_enum_itemD (draws_sq (show X.A.in1.handled = none from I.ok.hd hc) b it a hai its.toArray) he ⟨hit, p⟩ (by simpa using hlt) hei (by simp [hei, Ne.symm hea]) fun u h' tk hu ho hit' hT hsz hk => ?_
    have ru : RelV x u := by
      obtain ⟨u', hu', ru⟩ := rv.get hx
      have hu2 : its[i]? = some u := by simpa using hu
      rw [hu'] at hu2; cases hu2; exact ru
    refine ⟨_, rfl, wpAny_letOwnedTupleGo_enum (s := { s with heap := h', toks := tk + 1 }) ho fun h'' he' sb => ?_⟩
    have hT2 : h''.get? s.heap.objs.size = some { cls := .type "tuple", data := .seq #[.int i tk, u] } := (sb.2 _ (Nat.ne_of_gt hel)).trans hT
    have new : ObjOk X.prog X.w (upd H s.heap.objs.size (.frz { cls := .type "tuple", data := .seq #[.int i tk, u] } (.tup [.int (i : Nat), x]))) h'' s.heap.objs.size (.frz { cls := .type "tuple", data := .seq #[.int i tk, u] } (.tup [.int (i : Nat), x])) :=
      ⟨hT2, by show 2 ≤ sizeLine; decide, [.int i tk, u], .cons ⟨_, rfl⟩ (.cons ru .nil), ⟨_, hT2, rfl, _, rfl⟩⟩
    have I1 : Inv X pins σ (upd H s.heap.objs.size (.frz { cls := .type "tuple", data := .seq #[.int i tk, u] } (.tup [.int (i : Nat), x]))) { s with heap := h'', toks := tk + 1 } :=
      I.turnedNew (ch := [e, it]) (fun b ob hb q => (sb.2 b (fun z => hb (by simp [z]))).trans (hk b ob (fun z => hb (by simp [z])) (fun z => hb (by simp [z])) q)) hf (Nat.le_refl _) new
    refine ⟨.ref s.heap.objs.size, _, I1, rfl, ⟨_, x, _, rfl, I.hok.fresh (Nat.le_refl _), rfl, rfl, fun ys hy => by rw [sq_inj I hy hq]; exact hx⟩, ⟨⟨u, ?_⟩, hit'.1.at' fun o q => (sb.2 it (Ne.symm hei)).trans q⟩, fun c hb => ?_⟩
    · have e1 : ((i + 1 : Nat) : Int) = (i : Int) + 1 := by omega
      rw [e1]; exact he'
    · have hb' : c < s.heap.objs.size := by
        have e' : c = e ∨ c = it := by simpa using hb
        rcases e' with z | z
        · rw [z]; exact hel
        · obtain ⟨o, h1, _⟩ := hit.ob
          rw [z]; exact Heap.lt_size h1
      rw [upd_ne (Nat.ne_of_lt hb')]
      exact (hf c hb).1
  done := by
    intro X hP hw hK hc i pins s σ H E I hf st hg
    subst hP hw hK
    obtain ⟨⟨old, he⟩, hit⟩ := st
    obtain ⟨xs, hq, hx⟩ := hg
    obtain ⟨its, rv, p, hz⟩ := inv_sq I hq
    obtain ⟨f0, f1, f2, f3, f4, f5⟩ := hf it (by simp)
    have hl := rv.length
    have hai : a ≠ it := sq_ne_it p hit
    have hi : i = its.toArray.size := by rw [List.size_toArray]; omega
    refine wpAny_pyNext_enum_endD (draws_sq (show X.A.in1.handled = none from I.ok.hd hc) b it a hai its.toArray) he (by rw [← hi]; exact ⟨hit, p⟩) fun h' eb => ⟨rfl, I.turned (t' := s.toks) (fun b o hb q => eb b o hb q) f0 f1 f3 f4 f5⟩
  self := fun A i s Q E st h => let ⟨⟨_, he⟩, _⟩ := st; wpAny_pyIter_enum he h
/-- enumerate(v): its two new cells -/
theorem meets_enum_newB1 {v : Value} {o : Obj} {H : Heap → Prop} (B : Begins v o H) :
    Meets (Builtin.«enumerate.__new__» ⟨[.type "enumerate", v], []⟩) (fun _ R s => H s.heap ∧
      R (.ok (.ret (.ref (s.heap.push o).objs.size))) { s with heap := (s.heap.push o).push { cls := .type "enumerate", data := .fields #[.none, .bool false, .ref s.heap.objs.size, rawInt 0, .none, .none] } }) :=
  .of_wp fun prog w A R s h => by
    obtain ⟨hp, g, d, tk, os⟩ := s; obtain ⟨h1, h⟩ := h
    have hsub := sub_enumerate
    have q1 : ∀ {A' : Around} {E : Value → Shared → Prop} {Q : Value → Shared → Prop}, Q (.ref hp.objs.size) ⟨hp.push o, g, d, tk, os⟩ → wpAny (model prog w) A' (pyIter v) Q E ⟨hp, g, d, tk, os⟩ :=
      fun q => B.iter prog w _ _ ⟨hp, g, d, tk, os⟩ _ h1 q
    wp_walk using q1
    refine wpAny_stack_any fun st => wpAny_pure ?_
    split
    · rename_i c _ _ _ _ _
      cases (c == Value.type "enumerate")
      · wp_walk using q1
        exact ⟨_, rfl, h⟩
      · wp_walk using q1
        exact ⟨_, rfl, h⟩
    · wp_walk using q1
      exact ⟨_, rfl, h⟩
theorem enum_begins1 {prog : Program} {w : World} {A : Around} {E : Value → Shared → Prop} {s : Shared} {v : Value} {o : Obj} {H : Heap → Prop} {Q : Value → Shared → Prop} (B : Begins v o H) (h1 : H s.heap)
    (h : ∀ h', IsEnum h' (s.heap.objs.size + 1) s.heap.objs.size 0 .none → h'.get? s.heap.objs.size = some o → h'.objs.size = s.heap.objs.size + 2 →
      (∀ b o, s.heap.get? b = some o → h'.get? b = some o) → Q (.ref (s.heap.objs.size + 1)) { s with heap := h' }) :
    wpAny (model prog w) A (call (.type "enumerate") [v]) Q E s := by
  refine callType_new F.called_enumerate (by decide) (F.typeCall_enumerate_1 _) (F.newCall_enumerate_1 _) (fun obj => F.args_object_init_2 obj _) F.entry_enumerate_new
    (meets_enum_newB1 B) ⟨h1, ?_⟩
  have hz : (s.heap.push o).objs.size = s.heap.objs.size + 1 := Heap.size_push ..
  show _ ∧ _
  rw [hz]
  have he : IsEnum ((s.heap.push o).push { cls := .type "enumerate", data := .fields #[.none, .bool false, .ref s.heap.objs.size, rawInt 0, .none, .none] }) (s.heap.objs.size + 1) s.heap.objs.size 0 .none := by
    have := Heap.get?_push_size (s.heap.push o) (o := { cls := .type "enumerate", data := .fields #[.none, .bool false, .ref s.heap.objs.size, rawInt 0, .none, .none] }) rfl
    rw [hz] at this; exact this
  refine ⟨⟨_, he, rfl⟩, h _ he (Heap.get?_push_of_some _ (Heap.get?_push_size _ B.free)) (by rw [Heap.size_push, hz]) fun b o x => Heap.get?_push_of_some _ (Heap.get?_push_of_some _ x)⟩
def iEnumB (K : PySem.W.Frag) (ta : TA) : TI := fun σ H R => ta σ H fun vs H1 => ∃ b a xs, vs = [.ref a] ∧ Sq K H1 b a xs ∧ R (IteB K b a) H1
theorem pi_enumB {X : Cx} {e : Expr} {ta : TA} {p pos tpos : Pos} {elts : List Expr} {kk : Nat} (hg : Gl X "enumerate") (hm : X.mg "enumerate" = none) (ha : PA X [e] ta) (hs : starEach [e] X.env = [(false, eval e X.env)] := by rfl) :
    PI X (.Tuple elts kk tpos) (.Call (.Name "enumerate" p) [e] [] pos) (iEnumB X.K ta) := by
  refine ⟨fun pins s σ H R I h => ?_⟩
  refine Call_ (ld_blt I hg hm boot_enumerate (PyProof.Rows.callWith_type1 (thn (ha.run pos pins s σ H _ I h) fun us s1 ⟨vs, H1, I1, r1, b, a, xs, ex, hq, q⟩ => ?_) hs rfl))
  subst ex
  cases r1 with
  | cons r rr =>
    cases rr
    cases r
    obtain ⟨its, rv, p', hz⟩ := inv_sq I1 hq
    refine enum_begins1 (begins_sq b a its.toArray) p' fun h' he hit hsz hk => wpAny_pyIter_enum he ?_
    have I2 : Inv X pins σ H1 { s1 with heap := h' } := I1.kept (t' := s1.toks) hk
    refine ⟨s1.heap.objs.size + 1, [s1.heap.objs.size + 1, s1.heap.objs.size], _, _, H1, rfl, I2, turn_enumB b a (s1.heap.objs.size + 1) s1.heap.objs.size, ⟨⟨.none, he⟩, IsIt.new hit⟩, fun b hb => ?_, q⟩
    have e' : b = s1.heap.objs.size + 1 ∨ b = s1.heap.objs.size := by simpa using hb
    have hle : s1.heap.objs.size ≤ b := by
      rcases e' with z | z
      · rw [z]; exact Nat.le_add_right _ _
      · rw [z]; exact Nat.le_refl _
    exact I1.fpOk hle (I1.hok.fresh hle)

/-! ### zip -/
def ItzB (K : PySem.W.Frag) (b1 b2 : Bool) (a1 a2 : Addr) : It :=
  ⟨fun i H => ∃ (xs ys : List V) (x y : V), Sq K H b1 a1 xs ∧ Sq K H b2 a2 ys ∧ xs[i]? = some x ∧ ys[i]? = some y,
    fun i H v H' => ∃ T x y, ∃ o : Obj, v = .ref T ∧ H T = none ∧ o.dict = none ∧ H' = upd H T (.frz o (.tup [x, y])) ∧ (∀ xs, Sq K H b1 a1 xs → xs[i]? = some x) ∧ ∀ ys, Sq K H b2 a2 ys → ys[i]? = some y,
    fun i H => ∃ xs ys : List V, Sq K H b1 a1 xs ∧ Sq K H b2 a2 ys ∧ i ≤ xs.length ∧ i ≤ ys.length ∧ (i = xs.length ∨ i = ys.length)⟩
/-- the cells of the zip itself lie apart -/
structure ZipOwn (z TI TO i1 i2 : Addr) : Prop where
  TIz : TI ≠ z
  TOz : TO ≠ z
  TITO : TI ≠ TO
  i12 : i1 ≠ i2
theorem zip_sep {h : Heap} {z TI TO i1 i2 a1 a2 : Addr} {b1 b2 : Bool} {i : Nat} {xs ys : Array Value} {x y : Value} (D : ZipOwn z TI TO i1 i2) (hz : IsZip h z TI TO .none) (hTI : IsTupOf2 h TI (.ref i1) (.ref i2)) (hTO : IsTupOf2 h TO x y)
    (h1 : IsIt b1 h i1 a1 i) (h2 : IsIt b2 h i2 a2 i) (p1 : IsSq b1 h a1 xs) (p2 : IsSq b2 h a2 ys) (n1 : a1 ≠ TO) (n2 : a2 ≠ TO) : ZipSep2 z TI TO i1 i2 [i1, a1] [i2, a2] := by
  have zi1 : z ≠ i1 := it_ne_cls h1 hz (by show Value.type "zip" ≠ .type "tuple_iterator"; decide) (by show Value.type "zip" ≠ .type "list_iterator"; decide)
  have zi2 : z ≠ i2 := it_ne_cls h2 hz (by show Value.type "zip" ≠ .type "tuple_iterator"; decide) (by show Value.type "zip" ≠ .type "list_iterator"; decide)
  have za1 : a1 ≠ z := sq_ne_cls p1 hz (by show Value.type "zip" ≠ .type "tuple"; decide) (by show Value.type "zip" ≠ .type "list"; decide)
  have za2 : a2 ≠ z := sq_ne_cls p2 hz (by show Value.type "zip" ≠ .type "tuple"; decide) (by show Value.type "zip" ≠ .type "list"; decide)
  have t1 : TI ≠ i1 := it_ne_cls h1 hTI (by show Value.type "tuple" ≠ .type "tuple_iterator"; decide) (by show Value.type "tuple" ≠ .type "list_iterator"; decide)
  have t2 : TI ≠ i2 := it_ne_cls h2 hTI (by show Value.type "tuple" ≠ .type "tuple_iterator"; decide) (by show Value.type "tuple" ≠ .type "list_iterator"; decide)
  have o1 : TO ≠ i1 := it_ne_cls h1 hTO (by show Value.type "tuple" ≠ .type "tuple_iterator"; decide) (by show Value.type "tuple" ≠ .type "list_iterator"; decide)
  have o2 : TO ≠ i2 := it_ne_cls h2 hTO (by show Value.type "tuple" ≠ .type "tuple_iterator"; decide) (by show Value.type "tuple" ≠ .type "list_iterator"; decide)
  have c1 : a2 ≠ i1 := sq_ne_it p2 h1
  have c2 : a1 ≠ i2 := sq_ne_it p1 h2
  exact { TIz := D.TIz, TOz := D.TOz, TITO := D.TITO, TIi1 := t1, mem1 := by simp, zf1 := by simp [zi1, za1.symm], Tf1 := by simp [o1, n1.symm], TIi2 := t2, mem2 := by simp, zf2 := by simp [zi2, za2.symm], Tf2 := by simp [o2, n2.symm], sep1_2 := by simp [D.i12, c1.symm], sep2_1 := by simp [D.i12.symm, c2.symm] }
theorem turn_zipB {P : Program} {w : World} {K : PySem.W.Frag} {elts : List Expr} {kk : Nat} {tpos : Pos} (b1 b2 : Bool) (a1 a2 z TI TO i1 i2 : Addr) (D : ZipOwn z TI TO i1 i2) (n1 : a1 ≠ TO) (n2 : a2 ≠ TO) :
    Turn P w K (.Tuple elts kk tpos) (ItzB K b1 b2 a1 a2) [z, TI, TO, i1, i2] z (fun i h => IsZip h z TI TO .none ∧ IsTupOf2 h TI (.ref i1) (.ref i2) ∧ (∃ x y, IsTupOf2 h TO x y) ∧ IsIt b1 h i1 a1 i ∧ IsIt b2 h i2 a2 i) where
  mem := by simp
  obj := fun i h st c hc => by
    obtain ⟨hz, hTI, ⟨x, y, hTO⟩, h1, h2⟩ := st
    obtain ⟨o1, e1, _, d1⟩ := h1.ob
    obtain ⟨o2, e2, _, d2⟩ := h2.ob
    have e' : c = z ∨ c = TI ∨ c = TO ∨ c = i1 ∨ c = i2 := by simpa using hc
    rcases e' with q | q | q | q | q
    · rw [q]; exact ⟨_, hz, fun v q => nomatch q⟩
    · rw [q]; exact ⟨_, hTI, fun v q => nomatch q⟩
    · rw [q]; exact ⟨_, hTO, fun v q => nomatch q⟩
    · rw [q]; exact ⟨o1, e1, d1⟩
    · rw [q]; exact ⟨o2, e2, d2⟩
  keep := fun i h h' st k => by
    obtain ⟨hz, hTI, ⟨x, y, hTO⟩, h1, h2⟩ := st
    exact ⟨k z (by simp) _ hz, k TI (by simp) _ hTI, ⟨x, y, k TO (by simp) _ hTO⟩, h1.at' fun o q => k i1 (by simp) o q, h2.at' fun o q => k i2 (by simp) o q⟩
  item := by
    intro X hP hw hK hc i pins s σ H E I hf st hg
    subst hP hw hK
    obtain ⟨hz, hTI, ⟨x0, y0, hTO⟩, h1, h2⟩ := st
    obtain ⟨xs, ys, x, y, hqx, hqy, hx, hy⟩ := hg
    obtain ⟨its, rv, p, _⟩ := inv_sq I hqx
    obtain ⟨its2, rv2, p2, _⟩ := inv_sq I hqy
    have l1 := rv.length
    have l2 := rv2.length
    have lt1 : i < its.length := by have := (List.getElem?_eq_some_iff.mp hx).1; omega
    have lt2 : i < its2.length := by have := (List.getElem?_eq_some_iff.mp hy).1; omega
    have S := zip_sep D hz hTI hTO h1 h2 p p2 n1 n2
    have hh : X.A.in1.handled = none := I.ok.hd hc
    have hzl : z < s.heap.objs.size := Heap.lt_size hz
    refine wpAny_pyNext_zipD2_item S (draws_sq hh b1 i1 a1 (sq_ne_it p h1) its.toArray) (draws_sq hh b2 i2 a2 (sq_ne_it p2 h2) its2.toArray) hz hTI hTO ⟨h1, p⟩ ⟨h2, p2⟩ (by simpa using lt1) (by simpa using lt2) fun u u2 h' tk hu hu2 z' TO' h1' h2' hT hsz hk => ?_
    have ru : RelV x u := by
      obtain ⟨u', q1, q2⟩ := rv.get hx
      have q3 : its[i]? = some u := by simpa using hu
      rw [q1] at q3; cases q3; exact q2
    have ru2 : RelV y u2 := by
      obtain ⟨u', q1, q2⟩ := rv2.get hy
      have q3 : its2[i]? = some u2 := by simpa using hu2
      rw [q1] at q3; cases q3; exact q2
    refine ⟨_, rfl, wpAny_letOwnedTupleGo_zip (s := { s with heap := h', toks := tk }) z' fun h'' z'' sb => ?_⟩
    have hT2 : h''.get? s.heap.objs.size = some { cls := .type "tuple", data := .seq #[u, u2] } := (sb.2 _ (Nat.ne_of_gt hzl)).trans hT
    have new : ObjOk X.prog X.w (upd H s.heap.objs.size (.frz { cls := .type "tuple", data := .seq #[u, u2] } (.tup [x, y]))) h'' s.heap.objs.size (.frz { cls := .type "tuple", data := .seq #[u, u2] } (.tup [x, y])) :=
      ⟨hT2, by show 2 ≤ sizeLine; decide, [u, u2], .cons ru (.cons ru2 .nil), ⟨_, hT2, rfl, _, rfl⟩⟩
    have I1 : Inv X pins σ (upd H s.heap.objs.size (.frz { cls := .type "tuple", data := .seq #[u, u2] } (.tup [x, y]))) { s with heap := h'', toks := tk } :=
      I.turnedNew (t' := tk) (ch := [z, TI, TO, i1, i2]) (fun c o hb q => (sb.2 c (fun q' => hb (by simp [q']))).trans (hk c o (fun q' => hb (by simp [q'])) (fun q' => hb (by simp [q'])) (fun q' => hb (by simp [q'])) (fun q' => hb (by simp [q'])) q)) hf (Nat.le_refl _) new
    refine ⟨.ref s.heap.objs.size, _, I1, rfl, ⟨_, x, y, _, rfl, I.hok.fresh (Nat.le_refl _), rfl, rfl, fun l hl => by rw [sq_inj I hl hqx]; exact hx, fun l hl => by rw [sq_inj I hl hqy]; exact hy⟩, ⟨z'', ?_, ⟨u, u2, ?_⟩, ?_, ?_⟩, fun c hcm => ?_⟩
    · exact (sb.2 _ D.TIz).trans (hk _ _ D.TIz D.TITO S.TIi1 S.TIi2 hTI)
    · exact (sb.2 _ D.TOz).trans TO'
    · exact h1'.1.at' fun o q => (sb.2 _ S.zi1.symm).trans q
    · exact h2'.1.at' fun o q => (sb.2 _ S.zi2.symm).trans q
    · have hlt : c < s.heap.objs.size := by
        have e' : c = z ∨ c = TI ∨ c = TO ∨ c = i1 ∨ c = i2 := by simpa using hcm
        rcases e' with q | q | q | q | q
        · rw [q]; exact hzl
        · rw [q]; exact Heap.lt_size hTI
        · rw [q]; exact Heap.lt_size hTO
        · obtain ⟨_, e1, _⟩ := h1.ob; rw [q]; exact Heap.lt_size e1
        · obtain ⟨_, e2, _⟩ := h2.ob; rw [q]; exact Heap.lt_size e2
      rw [upd_ne (Nat.ne_of_lt hlt)]
      exact (hf c hcm).1
  done := by
    intro X hP hw hK hc i pins s σ H E I hf st hg
    subst hP hw hK
    obtain ⟨hz, hTI, ⟨x0, y0, hTO⟩, h1, h2⟩ := st
    obtain ⟨xs, ys, hqx, hqy, g1, g2, hend⟩ := hg
    obtain ⟨its, rv, p, _⟩ := inv_sq I hqx
    obtain ⟨its2, rv2, p2, _⟩ := inv_sq I hqy
    have l1 := rv.length
    have l2 := rv2.length
    have S := zip_sep D hz hTI hTO h1 h2 p p2 n1 n2
    have hh : X.A.in1.handled = none := I.ok.hd hc
    exact wpAny_pyNext_zipD2_end S (draws_sq hh b1 i1 a1 (sq_ne_it p h1) its.toArray) (draws_sq hh b2 i2 a2 (sq_ne_it p2 h2) its2.toArray) hz hTI hTO ⟨h1, p⟩ ⟨h2, p2⟩ (by rw [List.size_toArray]; omega) (by rw [List.size_toArray]; omega) (by rw [List.size_toArray, List.size_toArray]; omega) fun h' tk hk => ⟨rfl, I.turnedL (t' := tk) (ch := [z, TI, TO, i1, i2]) (fun c o hb q =>
      hk c o (fun q' => hb (by simp [q'])) (fun q' => hb (by simp [q'])) (fun q' => hb (by simp [q'])) (fun q' => hb (by simp [q'])) q) hf⟩
  self := fun A i s Q E st h => wpAny_pyIter_zip st.1 h
def iZipB (K : PySem.W.Frag) (ta : TA) : TI := fun σ H R => ta σ H fun vs H1 => ∃ b1 b2 a1 a2 xs ys, vs = [.ref a1, .ref a2] ∧ Sq K H1 b1 a1 xs ∧ Sq K H1 b2 a2 ys ∧ R (ItzB K b1 b2 a1 a2) H1
theorem pi_zipB {X : Cx} {e e2 : Expr} {ta : TA} {p pos tpos : Pos} {elts : List Expr} {kk : Nat} (hg : Gl X "zip") (hm : X.mg "zip" = none) (ha : PA X [e, e2] ta)
    (hs : starEach [e, e2] X.env = (false, eval e X.env) :: starEach [e2] X.env := by rfl) (hpl : (backTo pos (starEach [e2] X.env)).any (·.1) = false := by rfl) :
    PI X (.Tuple elts kk tpos) (.Call (.Name "zip" p) [e, e2] [] pos) (iZipB X.K ta) := by
  refine ⟨fun pins s σ H R I h => ?_⟩
  refine Call_ (ld_blt I hg hm PyProof.Rows.boot_zip (PyProof.Rows.callWith_type1 (thn (ha.run pos pins s σ H _ I h) fun us s1 ⟨vs, H1, I1, r1, b1, b2, a1, a2, xs, ys, ex, hqx, hqy, q⟩ => ?_) hs hpl))
  subst ex
  cases r1 with
  | cons r rr =>
    cases rr with
    | cons r' rr =>
      cases rr
      cases r
      cases r'
      obtain ⟨its, rv, p1, _⟩ := inv_sq I1 hqx
      obtain ⟨its2, rv2, p2, _⟩ := inv_sq I1 hqy
      obtain ⟨o1, ho1, _⟩ := p1.ob
      obtain ⟨o2, ho2, _⟩ := p2.ob
      refine zip_begins2 (begins_sq b1 a1 its.toArray) (begins_sq b2 a2 its2.toArray) p1 p2 fun h' hz hTI hTO h1 h2 hsz hk => wpAny_pyIter_zip hz ?_
      have I2 : Inv X pins σ H1 { s1 with heap := h' } := I1.kept (t' := s1.toks) hk
      refine ⟨s1.heap.objs.size + 4, [s1.heap.objs.size + 4, s1.heap.objs.size + 2, s1.heap.objs.size + 3, s1.heap.objs.size, s1.heap.objs.size + 1], _, _, H1, rfl, I2, turn_zipB b1 b2 a1 a2 _ _ _ _ _ ⟨?_, ?_, ?_, ?_⟩ ?_ ?_, ⟨hz, hTI, ⟨_, _, hTO⟩, IsIt.new h1, IsIt.new h2⟩, fun c hcm => ?_, q⟩
      · show (s1.heap.objs.size + 2 : Nat) ≠ s1.heap.objs.size + 4; omega
      · show (s1.heap.objs.size + 3 : Nat) ≠ s1.heap.objs.size + 4; omega
      · show (s1.heap.objs.size + 2 : Nat) ≠ s1.heap.objs.size + 3; omega
      · show (s1.heap.objs.size : Nat) ≠ s1.heap.objs.size + 1; omega
      · exact Nat.ne_of_lt (Nat.lt_of_lt_of_le (Heap.lt_size ho1) (Nat.le_add_right _ 3))
      · exact Nat.ne_of_lt (Nat.lt_of_lt_of_le (Heap.lt_size ho2) (Nat.le_add_right _ 3))
      · have e' : c = s1.heap.objs.size + 4 ∨ c = s1.heap.objs.size + 2 ∨ c = s1.heap.objs.size + 3 ∨ c = s1.heap.objs.size ∨ c = s1.heap.objs.size + 1 := by simpa using hcm
        have hle : s1.heap.objs.size ≤ c := by
          rcases e' with z | z | z | z | z
          · rw [z]; exact Nat.le_add_right _ _
          · rw [z]; exact Nat.le_add_right _ _
          · rw [z]; exact Nat.le_add_right _ _
          · rw [z]; exact Nat.le_refl _
          · rw [z]; exact Nat.le_add_right _ _
        exact I1.fpOk hle (I1.hok.fresh hle)
end Zd
end
section
/-! Zd 8: sources of loops; comprehensions. -/
namespace Zd
open PySem PySem.Spec PyProof.Rows L2
set_option autoImplicit false
section
variable {X : Cx} {T : Tab} {W : WX} {pos : Pos}
theorem PI.ors {tg e : Expr} {ι : Sort _} {t : ι → TI} (h : ∀ i, PI X tg e (t i)) : PI X tg e (fun σ H Q => ∃ i, t i σ H Q) := ⟨fun pins s σ H Q I ⟨i, q⟩ => (h i).run pins s σ H Q I q⟩
theorem walks_list {K : PySem.W.Frag} {G : Hp} {a : Addr} {xs : List V} {ds : List D} (h : SqL K G a xs) (r : RzL K T G xs ds) : Walks_ K T (Itl K a) G ds := fun i G1 H s1 s2 => by
  have hq : SqL K H a xs := (s1.trans s2).seq h
  refine ⟨fun d hd => ?_, fun e => ⟨xs, hq, by rw [e, r.len]; exact Nat.le_refl _⟩⟩
  obtain ⟨v, hv, rz⟩ := r.get hd
  refine ⟨⟨xs, v, hq, hv⟩, fun x H' y => ?_⟩
  obtain ⟨rfl, y⟩ := y
  have := y xs hq
  rw [hv] at this; cases this
  exact ⟨G1, New.refl s2, rz.mono s1⟩
theorem walks_tup {K : PySem.W.Frag} {G : Hp} {a : Addr} {xs : List V} {ds : List D} (h : SqT K G a xs) (r : RzL K T G xs ds) : Walks_ K T (Itt K a) G ds := fun i G1 H s1 s2 => by
  have hq : SqT K H a xs := Same.tup (s1.trans s2) h
  refine ⟨fun d hd => ?_, fun e => ⟨xs, hq, by rw [e, r.len]; exact Nat.le_refl _⟩⟩
  obtain ⟨v, hv, rz⟩ := r.get hd
  refine ⟨⟨xs, v, hq, hv⟩, fun x H' y => ?_⟩
  obtain ⟨rfl, y⟩ := y
  have := y xs hq
  rw [hv] at this; cases this
  exact ⟨G1, New.refl s2, rz.mono s1⟩
/-- lo, lo + c, .. n of them -/
def rngL (lo c : Int) (n : Nat) : List D := (List.range n).map fun i => .int (lo + (i : Nat) * c)
theorem rngL_get {lo c : Int} {n i : Nat} {d : D} (h : (rngL lo c n)[i]? = some d) : i < n ∧ d = .int (lo + (i : Nat) * c) := by
  unfold rngL at h
  rw [List.getElem?_map] at h
  by_cases hi : i < n
  · rw [List.getElem?_range hi] at h
    cases h
    exact ⟨hi, rfl⟩
  · rw [List.getElem?_eq_none (by simpa using hi)] at h; cases h
theorem rngL_len {lo c : Int} {n : Nat} : (rngL lo c n).length = n := by unfold rngL; rw [List.length_map, List.length_range]
theorem walks_range {K : PySem.W.Frag} {G : Hp} {lo : Int} {n : Nat} : Walks_ K T (Itr lo n) G (rngL lo 1 n) := fun i G1 H s1 s2 => by
  refine ⟨fun d hd => ?_, fun e => by rw [e, rngL_len]; exact Nat.le_refl _⟩
  obtain ⟨hi, rfl⟩ := rngL_get hd
  refine ⟨hi, fun x H' y => ?_⟩
  obtain ⟨rfl, rfl⟩ := y
  rw [Int.mul_one]
  exact ⟨G1, New.refl s2, Rz.int_⟩
theorem walks_rangeC {K : PySem.W.Frag} {G : Hp} {lo c : Int} {n : Nat} : Walks_ K T (Itc lo c n) G (rngL lo c n) := fun i G1 H s1 s2 => by
  refine ⟨fun d hd => ?_, fun e => by rw [e, rngL_len]; exact Nat.le_refl _⟩
  obtain ⟨hi, rfl⟩ := rngL_get hd
  refine ⟨hi, fun x H' y => ?_⟩
  obtain ⟨rfl, rfl⟩ := y
  exact ⟨G1, New.refl s2, Rz.int_⟩
def enumD : Nat → List D → List D
  | _, [] => []
  | k, d :: ds => .tup [.int k, d] :: enumD (k + 1) ds
theorem enumD_len : ∀ (k : Nat) (ds : List D), (enumD k ds).length = ds.length
  | _, [] => rfl
  | k, d :: ds => by rw [enumD, List.length_cons, List.length_cons, enumD_len]
theorem enumD_get : ∀ {k : Nat} {ds : List D} {i : Nat} {d : D}, (enumD k ds)[i]? = some d → ∃ x, ds[i]? = some x ∧ d = .tup [.int ((k + i : Nat) : Int), x]
  | k, [], i, d, h => by simp [enumD] at h
  | k, x :: ds, 0, d, h => by
    simp [enumD] at h
    exact ⟨x, rfl, by rw [← h]; rfl⟩
  | k, x :: ds, i + 1, d, h => by
    rw [enumD, List.getElem?_cons_succ] at h
    obtain ⟨y, h1, h2⟩ := enumD_get h
    exact ⟨y, by rw [List.getElem?_cons_succ]; exact h1, by rw [h2, show k + 1 + i = k + (i + 1) by omega]⟩
theorem pair_new {K : PySem.W.Frag} {G H : Hp} {p : Addr} {x y : V} {a b : D} (s : Same G H) (hp : H p = none) (hx : Rz K T G x a) (hy : Rz K T G y b) {o : Obj} (ho : o.dict = none) : New T G H (upd G p (.frz o (.tup [x, y]))) (upd H p (.frz o (.tup [x, y]))) ∧ Rz K T (upd G p (.frz o (.tup [x, y]))) (.ref p) (.tup [a, b]) := by
  have n := New.one (T := T) (o := .frz o (.tup [x, y])) s hp
  exact ⟨n, Rz.tup_ (.inl ⟨o, upd_same, ho⟩) ((RzL.cons hx (RzL.cons hy RzL.nil)).mono n.gro)⟩
theorem walks_enum {K : PySem.W.Frag} {G : Hp} {b : Bool} {a : Addr} {xs : List V} {ds : List D} (h : Sq K G b a xs) (r : RzL K T G xs ds) : Walks_ K T (IteB K b a) G (enumD 0 ds) := fun i G1 H s1 s2 => by
  have hq : Sq K H b a xs := h.mono (s1.trans s2)
  refine ⟨fun d hd => ?_, fun e => ⟨xs, hq, by rw [e, enumD_len, r.len]⟩⟩
  obtain ⟨x, hx, rfl⟩ := enumD_get hd
  obtain ⟨v, hv, rz⟩ := r.get hx
  refine ⟨⟨xs, v, hq, hv⟩, fun u H' y => ?_⟩
  obtain ⟨p, w, o, rfl, hp, ho, rfl, y⟩ := y
  have := y xs hq
  rw [hv] at this; cases this
  rw [Nat.zero_add]
  obtain ⟨n, z⟩ := pair_new (K := K) (T := T) (x := .int (i : Nat)) (a := .int (i : Nat)) s2 hp Rz.int_ (rz.mono s1) ho
  exact ⟨_, n, z⟩
def zipD : List D → List D → List D
  | a :: as, b :: bs => .tup [a, b] :: zipD as bs
  | _, _ => []
theorem zipD_len : ∀ (as bs : List D), (zipD as bs).length = min as.length bs.length
  | [], _ => by simp [zipD]
  | _ :: _, [] => by simp [zipD]
  | a :: as, b :: bs => by rw [zipD, List.length_cons, List.length_cons, List.length_cons, zipD_len]; omega
theorem zipD_get : ∀ {as bs : List D} {i : Nat} {d : D}, (zipD as bs)[i]? = some d → ∃ x y, as[i]? = some x ∧ bs[i]? = some y ∧ d = .tup [x, y]
  | [], _, i, d, h => by simp [zipD] at h
  | _ :: _, [], i, d, h => by simp [zipD] at h
  | a :: as, b :: bs, 0, d, h => by
    simp [zipD] at h
    exact ⟨a, b, rfl, rfl, h.symm⟩
  | a :: as, b :: bs, i + 1, d, h => by
    rw [zipD, List.getElem?_cons_succ] at h
    obtain ⟨x, y, h1, h2, h3⟩ := zipD_get h
    exact ⟨x, y, by rw [List.getElem?_cons_succ]; exact h1, by rw [List.getElem?_cons_succ]; exact h2, h3⟩
theorem walks_zip {K : PySem.W.Frag} {G : Hp} {b1 b2 : Bool} {a1 a2 : Addr} {xs ys : List V} {ds es : List D} (h : Sq K G b1 a1 xs) (h2 : Sq K G b2 a2 ys) (r : RzL K T G xs ds) (r2 : RzL K T G ys es) : Walks_ K T (ItzB K b1 b2 a1 a2) G (zipD ds es) := fun i G1 H s1 s2 => by
  have hq : Sq K H b1 a1 xs := h.mono (s1.trans s2)
  have hq2 : Sq K H b2 a2 ys := h2.mono (s1.trans s2)
  refine ⟨fun d hd => ?_, fun e => ⟨xs, ys, hq, hq2, ?_, ?_, ?_⟩⟩
  · obtain ⟨x, y, hx, hy, rfl⟩ := zipD_get hd
    obtain ⟨v, hv, rz⟩ := r.get hx
    obtain ⟨w, hw, rz2⟩ := r2.get hy
    refine ⟨⟨xs, ys, v, w, hq, hq2, hv, hw⟩, fun u H' y => ?_⟩
    obtain ⟨p, v', w', o, rfl, hp, ho, rfl, y1, y2⟩ := y
    have q1 := y1 xs hq
    have q2 := y2 ys hq2
    rw [hv] at q1; cases q1
    rw [hw] at q2; cases q2
    obtain ⟨n, z⟩ := pair_new (K := K) (T := T) s2 hp (rz.mono s1) (rz2.mono s1) ho
    exact ⟨_, n, z⟩
  · rw [e, zipD_len, r.len]; exact Nat.min_le_left _ _
  · rw [e, zipD_len, r2.len]; exact Nat.min_le_right _ _
  · rw [e, zipD_len, r.len, r2.len]; omega

/-! ### sources -/
def iSeq (d : DEn) : DIn := fun ρ => (d ρ).bind fun p => match seqOf p.2 with
  | some ds => .ok (p.1, ds)
  | none => .bad
theorem pi_both {K : PySem.W.Frag} {tg e : Expr} {t : TE} (hK : X.K = K) (h1 : PI X tg e (iTup K t)) (h2 : PI X tg e (iList K t)) (b : Bool) : PI X tg e (if b = true then iTup K t else iList K t) := by
  cases b
  · exact h2
  · exact h1
theorem di_seq {tg e : Expr} {d : DEn} (h : DE X T W e d) : DI X T W tg e (iSeq d) := by
  refine PI.imp (PI.ors (t := fun b : Bool => if b = true then iTup X.K (tE X.K T W d) else iList X.K (tE X.K T W d)) (pi_both rfl (pi_tup h) (pi_list h))) fun σ H Q q => ?_
  obtain ⟨τ, ρ, G, k, q⟩ := q
  cases e1 : d ρ with
  | bad => unfold iSeq at q; rw [e1] at q; exact q.elim
  | ex ρ2 x =>
    refine ⟨false, τ, ρ, G, k, ?_⟩
    unfold iSeq at q
    rw [e1] at q ⊢
    exact q
  | ok p =>
    have e2 := e1
    unfold iSeq at q
    rw [e1] at q
    dsimp only [R.bind_ok] at q
    split at q
    · rename_i ds hs
      obtain ⟨ρ1, r⟩ := p
      cases r with
      | tup es =>
        cases hs
        refine ⟨true, τ, ρ, G, k, ?_⟩
        rw [e1]
        intro G1 H1 k1 f1 v rv
        dsimp only at rv k1 f1 q
        rw [Rz] at rv
        obtain ⟨a, xs, rfl, h1, h2⟩ := rv
        exact ⟨a, rfl, ⟨xs, Same.tup k1.sub h1.t⟩, q G1 H1 k1 f1 _ (walks_tup h1.t h2)⟩
      | lst es =>
        cases hs
        refine ⟨false, τ, ρ, G, k, ?_⟩
        rw [e1]
        intro G1 H1 k1 f1 v rv
        dsimp only at rv k1 f1 q
        rw [Rz] at rv
        obtain ⟨a, xs, rfl, h1, h2⟩ := rv
        exact ⟨a, rfl, ⟨xs, SqL.of (k1.sub _ _ h1)⟩, q G1 H1 k1 f1 _ (walks_list (SqL.of h1) h2)⟩
      | frz es =>
        cases hs
        refine ⟨false, τ, ρ, G, k, ?_⟩
        rw [e1]
        intro G1 H1 k1 f1 v rv
        dsimp only at rv k1 f1 q
        rw [Rz] at rv
        obtain ⟨a, xs, rfl, h1, h2⟩ := rv
        exact ⟨a, rfl, ⟨xs, k1.sub.seq h1⟩, q G1 H1 k1 f1 _ (walks_list h1 h2)⟩
      | _ => cases hs
    · exact q.elim
def near (i : Int) : Bool := decide (-1000000 ≤ i) && decide (i ≤ 1000000)
theorem near_of {i : Int} (h : near i = true) : -(2 ^ 62) ≤ i ∧ i < 2 ^ 62 := by
  simp only [near, Bool.and_eq_true, decide_eq_true_eq] at h
  omega
def rng1 : List D → Option (List D)
  | [.int j] => if near j = true then some (rngL 0 1 j.toNat) else none
  | _ => none
def rng2 : List D → Option (List D)
  | [.int i, .int j] => if near i = true ∧ near j = true then some (rngL i 1 (j - i).toNat) else none
  | _ => none
def rng3 : List D → Option (List D)
  | [.int i, .int j, .int c] => if c ≠ 0 ∧ c.natAbs < 1073741824 ∧ Builtin.Range.small i j c = true ∧ Builtin.Range.rangeSize i j c = ((Builtin.Range.rangeSize i j c).toNat : Int) then some (rngL i c (Builtin.Range.rangeSize i j c).toNat) else none
  | _ => none
def iRes (f : List D → Option (List D)) (a : DAn) : DIn := fun ρ => (a ρ).bind fun p => match (resAll p.1 p.2).bind f with
  | some ds => .ok (p.1, ds)
  | none => .bad
theorem RbL.one {K : PySem.W.Frag} {G H : Hp} {vs : List V} {d : D} (h : RbL K T G H vs [d]) : ∃ v, vs = [v] ∧ Rb K T G H v d := by
  match vs, h with
  | [v], h => exact ⟨v, rfl, h.1⟩
theorem RbL.two {K : PySem.W.Frag} {G H : Hp} {vs : List V} {d e : D} (h : RbL K T G H vs [d, e]) : ∃ v w, vs = [v, w] ∧ Rb K T G H v d ∧ Rb K T G H w e := by
  match vs, h with
  | [v, w], h => exact ⟨v, w, rfl, h.1, h.2.1⟩
theorem RbL.three {K : PySem.W.Frag} {G H : Hp} {vs : List V} {d e f : D} (h : RbL K T G H vs [d, e, f]) : ∃ v w u, vs = [v, w, u] ∧ Rb K T G H v d ∧ Rb K T G H w e ∧ Rb K T G H u f := by
  match vs, h with
  | [v, w, u], h => exact ⟨v, w, u, rfl, h.1, h.2.1, h.2.2.1⟩
theorem iRes_of {K : PySem.W.Frag} {f : List D → Option (List D)} {a : DAn} {σ : L2.St} {H : Hp} {Q : It → Hp → Prop} (q : tI K T W (iRes f a) σ H Q) :
    tA K T W a σ H fun vs H1 => ∃ (G : Hp) (ds items : List D), Same G H1 ∧ RbL K T G H1 vs ds ∧ f ds = some items ∧ ∀ J, Walks_ K T J G items → Q J H1 := by
  obtain ⟨τ, ρ, G, k, q⟩ := q
  refine ⟨τ, ρ, G, k, (Out.bind0 q).imp fun ρ1 ops G1 H1 k1 fr1 q1 vs rvs fvs => ?_⟩
  dsimp only at q1
  split at q1
  · rename_i items h1
    cases h2 : resAll ρ1 ops with
    | none => rw [h2] at h1; cases h1
    | some ds =>
      rw [h2] at h1
      exact ⟨G1, ds, items, k1.sub, k1.resolveAll rvs h2, h1, fun J w => q1 G1 H1 k1 fr1 J w⟩
  · exact q1.elim
theorem di_range1 {tg a : Expr} {da : DAn} {p : Pos} (ha : DA X T W [a] da) (hm : X.mg "range" = none) (hg : Gl X "range" := by rfl) (hs : starEach [a] X.env = [(false, eval a X.env)] := by rfl) : DI X T W tg (.Call (.Name "range" p) [a] [] pos) (iRes rng1 da) := by
  refine PI.imp (pi_range1 hg hm ha hs) fun σ H Q q => ?_
  obtain ⟨τ, ρ, G, k, q⟩ := iRes_of q
  refine ⟨τ, ρ, G, k, q.imp fun ρ1 ops G1 H1 k1 fr1 q1 vs rvs fvs => ?_⟩
  obtain ⟨G2, ds, items, s, rb, e, q2⟩ := q1 vs rvs fvs
  unfold rng1 at e
  split at e
  · rename_i j
    obtain ⟨v, rfl, r⟩ := rb.one
    split at e
    · rename_i hj
      cases e
      have := near_of hj
      exact ⟨j, by rw [r.int], this.1, this.2, q2 _ walks_range⟩
    · cases e
  · cases e
theorem di_range2 {tg a b : Expr} {da : DAn} {p : Pos} (ha : DA X T W [a, b] da) (hm : X.mg "range" = none) (hg : Gl X "range" := by rfl) (hs : starEach [a, b] X.env = [(false, eval a X.env), (false, eval b X.env)] := by rfl) (hs2 : starEach [b] X.env = [(false, eval b X.env)] := by rfl) :
    DI X T W tg (.Call (.Name "range" p) [a, b] [] pos) (iRes rng2 da) := by
  refine PI.imp (pi_range2 hg hm ha hs hs2) fun σ H Q q => ?_
  obtain ⟨τ, ρ, G, k, q⟩ := iRes_of q
  refine ⟨τ, ρ, G, k, q.imp fun ρ1 ops G1 H1 k1 fr1 q1 vs rvs fvs => ?_⟩
  obtain ⟨G2, ds, items, s, rb, e, q2⟩ := q1 vs rvs fvs
  unfold rng2 at e
  split at e
  · rename_i i j
    obtain ⟨v, w, rfl, r, r2⟩ := rb.two
    split at e
    · rename_i hj
      cases e
      have h1 := near_of hj.1
      have h2 := near_of hj.2
      exact ⟨i, j, by rw [r.int, r2.int], ⟨h1.1, h1.2, h2.1, h2.2⟩, q2 _ walks_range⟩
    · cases e
  · cases e
def iVals (f : List D → Option (List D)) (a : DAn) : DIn := fun ρ => (a ρ).bind fun p => match (vals p.2).bind f with
  | some ds => .ok (p.1, ds)
  | none => .bad
theorem RzL.one {K : PySem.W.Frag} {G : Hp} {vs : List V} {d : D} (h : RzL K T G vs [d]) : ∃ v, vs = [v] ∧ Rz K T G v d := by
  obtain ⟨v, us, rfl, h1, h2⟩ := RzL.cons_inv h
  cases RzL.nil_inv h2
  exact ⟨v, rfl, h1⟩
theorem RzL.two {K : PySem.W.Frag} {G : Hp} {vs : List V} {d e : D} (h : RzL K T G vs [d, e]) : ∃ v w, vs = [v, w] ∧ Rz K T G v d ∧ Rz K T G w e := by
  obtain ⟨v, us, rfl, h1, h2⟩ := RzL.cons_inv h
  obtain ⟨w, rfl, h3⟩ := RzL.one h2
  exact ⟨v, w, rfl, h1, h3⟩
theorem iVals_of {K : PySem.W.Frag} {f : List D → Option (List D)} {a : DAn} {σ : L2.St} {H : Hp} {Q : It → Hp → Prop} (q : tI K T W (iVals f a) σ H Q) :
    tA K T W a σ H fun vs H1 => ∃ (G : Hp) (ds items : List D), Same G H1 ∧ RzL K T G vs ds ∧ f ds = some items ∧ ∀ J, Walks_ K T J G items → Q J H1 := by
  obtain ⟨τ, ρ, G, k, q⟩ := q
  refine ⟨τ, ρ, G, k, (Out.bind0 q).imp fun ρ1 ops G1 H1 k1 fr1 q1 vs rvs fvs => ?_⟩
  dsimp only at q1
  split at q1
  · rename_i items h1
    cases h2 : vals ops with
    | none => rw [h2] at h1; cases h1
    | some ds =>
      rw [h2] at h1
      exact ⟨G1, ds, items, k1.sub, rz_vals rvs h2, h1, fun J w => q1 G1 H1 k1 fr1 J w⟩
  · exact q1.elim
def isSq : D → Option (List D)
  | .tup es => some es
  | .lst es => some es
  | .frz es => some es
  | _ => none
theorem Rz.sq {K : PySem.W.Frag} {G : Hp} {v : V} {d : D} {es : List D} (h : Rz K T G v d) (e : isSq d = some es) : ∃ b a xs, v = V.ref a ∧ Sq K G b a xs ∧ RzL K T G xs es := by
  cases d with
  | tup ds => cases e; rw [Rz] at h; obtain ⟨a, xs, rfl, h1, h2⟩ := h; exact ⟨true, a, xs, rfl, h1.t, h2⟩
  | lst ds => cases e; rw [Rz] at h; obtain ⟨a, xs, rfl, h1, h2⟩ := h; exact ⟨false, a, xs, rfl, SqL.of h1, h2⟩
  | frz ds => cases e; rw [Rz] at h; obtain ⟨a, xs, rfl, h1, h2⟩ := h; exact ⟨false, a, xs, rfl, h1, h2⟩
  | _ => cases e
def enum1 : List D → Option (List D)
  | [d] => (isSq d).map (enumD 0)
  | _ => none
def zip2 : List D → Option (List D)
  | [d, e] => (isSq d).bind fun xs => (isSq e).map (zipD xs)
  | _ => none
theorem di_enum {e : Expr} {da : DAn} {p tpos : Pos} {elts : List Expr} {kk : Nat} (ha : DA X T W [e] da) (hm : X.mg "enumerate" = none) (hg : Gl X "enumerate" := by rfl) (hs : starEach [e] X.env = [(false, eval e X.env)] := by rfl) :
    DI X T W (.Tuple elts kk tpos) (.Call (.Name "enumerate" p) [e] [] pos) (iVals enum1 da) := by
  refine PI.imp (pi_enumB hg hm ha hs) fun σ H Q q => ?_
  obtain ⟨τ, ρ, G, k, q⟩ := iVals_of q
  refine ⟨τ, ρ, G, k, q.imp fun ρ1 ops G1 H1 k1 fr1 q1 vs rvs fvs => ?_⟩
  obtain ⟨G2, ds, items, s, rb, e, q2⟩ := q1 vs rvs fvs
  unfold enum1 at e
  split at e
  · rename_i d
    obtain ⟨v, rfl, r⟩ := rb.one
    cases h : isSq d with
    | none => rw [h] at e; cases e
    | some es =>
      rw [h] at e; cases e
      obtain ⟨b, a, xs, rfl, h1, h2⟩ := r.sq h
      exact ⟨b, a, xs, rfl, h1.mono s, q2 _ (walks_enum h1 h2)⟩
  · cases e
theorem di_zip {e e2 : Expr} {da : DAn} {p tpos : Pos} {elts : List Expr} {kk : Nat} (ha : DA X T W [e, e2] da) (hm : X.mg "zip" = none) (hg : Gl X "zip" := by rfl)
    (hs : starEach [e, e2] X.env = (false, eval e X.env) :: starEach [e2] X.env := by rfl) (hpl : (backTo pos (starEach [e2] X.env)).any (·.1) = false := by rfl) :
    DI X T W (.Tuple elts kk tpos) (.Call (.Name "zip" p) [e, e2] [] pos) (iVals zip2 da) := by
  refine PI.imp (pi_zipB hg hm ha hs hpl) fun σ H Q q => ?_
  obtain ⟨τ, ρ, G, k, q⟩ := iVals_of q
  refine ⟨τ, ρ, G, k, q.imp fun ρ1 ops G1 H1 k1 fr1 q1 vs rvs fvs => ?_⟩
  obtain ⟨G2, ds, items, s, rb, e, q2⟩ := q1 vs rvs fvs
  unfold zip2 at e
  split at e
  · rename_i d d'
    obtain ⟨v, w, rfl, r, r2⟩ := rb.two
    cases h : isSq d with
    | none => rw [h] at e; cases e
    | some es =>
      cases h' : isSq d' with
      | none => rw [h, h'] at e; cases e
      | some es' =>
        rw [h, h'] at e; cases e
        obtain ⟨b, a, xs, rfl, h1, h2⟩ := r.sq h
        obtain ⟨b', a', xs', rfl, h1', h2'⟩ := r2.sq h'
        exact ⟨b, b', a, a', xs, xs', rfl, h1.mono s, h1'.mono s, q2 _ (walks_zip h1 h1' h2 h2')⟩
  · cases e
end
end Zd
end
section
/-! Zd 9: list comprehensions. -/
namespace Zd
open PySem PySem.Spec PyProof.Rows L2
set_option autoImplicit false
def wipeE (ρ : Env) : List Nat → Env
  | [] => ρ
  | v :: vs => (wipeE ρ vs).set v none
theorem wipeE_len {ρ : Env} : ∀ {vs : List Nat}, (wipeE ρ vs).length = ρ.length
  | [] => rfl
  | v :: vs => by unfold wipeE; rw [List.length_set, wipeE_len]
theorem wipeE_some {ρ : Env} {i : Nat} {b : B} : ∀ {vs : List Nat}, (wipeE ρ vs)[i]? = some (some b) → ρ[i]? = some (some b) ∧ i ∉ vs
  | [], h => ⟨h, by simp⟩
  | v :: vs, h => by
    unfold wipeE at h
    by_cases hi : v = i
    · subst hi
      by_cases hv : v < (wipeE ρ vs).length
      · rw [List.getElem?_set_self hv] at h; cases h
      · rw [List.getElem?_eq_none (by simpa using hv)] at h; cases h
    · rw [List.getElem?_set_ne hi] at h
      obtain ⟨h1, h2⟩ := wipeE_some h
      exact ⟨h1, by simp only [List.mem_cons, not_or]; exact ⟨fun e => hi e.symm, h2⟩⟩
theorem wipe_get {σ : L2.St} {i : Nat} : ∀ {vs : List Nat}, i ∉ vs → (L2.wipe σ vs)[i]? = σ[i]?
  | [], h => rfl
  | v :: vs, h => by
    unfold wipe
    rw [List.mem_cons, not_or] at h
    rw [List.getElem?_set_ne (fun e => h.1 e.symm), wipe_get h.2]
theorem wipe_in {σ : L2.St} {i : Nat} : ∀ {vs : List Nat}, i ∈ vs → (L2.wipe σ vs)[i]? = if i < σ.length then some none else none
  | v :: vs, h => by
    unfold wipe
    by_cases e : v = i
    · subst e
      by_cases hl : v < σ.length
      · rw [List.getElem?_set_self (by rw [wipe_length]; exact hl), if_pos hl]
      · rw [List.getElem?_eq_none (by rw [List.length_set, wipe_length]; omega), if_neg hl]
    · rw [List.getElem?_set_ne e]
      rcases List.mem_cons.mp h with h | h
      · exact absurd h.symm e
      · exact wipe_in h
theorem Off.wipe {is vs : List Nat} {σ σ' : L2.St} (o : Off is (L2.wipe σ vs) σ') (h : ∀ i ∈ is, i ∈ vs) : L2.wipe σ' vs = L2.wipe σ vs := by
  have hl : σ'.length = σ.length := by rw [o.len, wipe_length]
  apply List.ext_getElem?
  intro i
  by_cases hi : i ∈ vs
  · rw [wipe_in hi, wipe_in hi, hl]
  · rw [wipe_get hi, o.get i (fun z => hi (h i z)), wipe_get hi]
/-- the old entries again -/
def backE (ρ1 ρ2 : Env) : List Nat → Env
  | [] => ρ2
  | v :: vs => (backE ρ1 ρ2 vs).set v (ρ1[v]?.join)
theorem backE_len {ρ1 ρ2 : Env} : ∀ {vs : List Nat}, (backE ρ1 ρ2 vs).length = ρ2.length
  | [] => rfl
  | v :: vs => by unfold backE; rw [List.length_set, backE_len]
theorem backE_some {ρ1 ρ2 : Env} {i : Nat} {b : B} : ∀ {vs : List Nat}, (backE ρ1 ρ2 vs)[i]? = some (some b) → (i ∈ vs ∧ ρ1[i]? = some (some b)) ∨ (i ∉ vs ∧ ρ2[i]? = some (some b))
  | [], h => .inr ⟨by simp, h⟩
  | v :: vs, h => by
    unfold backE at h
    by_cases hi : v = i
    · subst hi
      by_cases hv : v < (backE ρ1 ρ2 vs).length
      · rw [List.getElem?_set_self hv] at h
        injection h with h
        refine .inl ⟨List.mem_cons_self, ?_⟩
        cases e : ρ1[v]? with
        | none => rw [e] at h; cases h
        | some w => rw [e] at h; cases w with
          | none => cases h
          | some w => cases h; rfl
      · rw [List.getElem?_eq_none (by simpa using hv)] at h; cases h
    · rw [List.getElem?_set_ne hi] at h
      rcases backE_some h with ⟨h1, h2⟩ | ⟨h1, h2⟩
      · exact .inl ⟨List.mem_cons_of_mem _ h1, h2⟩
      · exact .inr ⟨by simp only [List.mem_cons, not_or]; exact ⟨fun e => hi e.symm, h1⟩, h2⟩
/-- no owned object in these slots -/
def noOwn (ρ : Env) (vs : List Nat) : Bool := vs.all fun i => match ρ[i]? with
  | some (some (.own _ _)) => false
  | _ => true
theorem noOwn_of {ρ : Env} {vs : List Nat} (h : noOwn ρ vs = true) {i t : Nat} {o : OD} (hi : i ∈ vs) : ρ[i]? ≠ some (some (B.own t o)) := by
  have := List.all_eq_true.mp h i hi
  intro e
  rw [e] at this
  cases this
section
variable {K : PySem.W.Frag} {T : Tab} {τ : Nat → Addr} {ρ ρ' ρ0 : Env} {σ σ' σ0 : L2.St} {G G' H H' G0 H0 : Hp}
theorem own_wipe {vs : List Nat} {a : Addr} (h : OwnAt (wipeE ρ vs) (L2.wipe σ vs) a) : OwnAt ρ σ a := by
  obtain ⟨i, t, o, e, q⟩ := h
  obtain ⟨h1, h2⟩ := wipeE_some e
  exact ⟨i, t, o, h1, (wipe_some q).1⟩
theorem Ok.wipe (k : Ok K T τ ρ σ G H) (vs : List Nat) : Ok K T τ (wipeE ρ vs) (L2.wipe σ vs) G H where
  sub := k.sub
  len := by rw [wipeE_len, wipe_length]; exact k.len
  val := fun i d e => by
    obtain ⟨h1, h2⟩ := wipeE_some e
    rw [wipe_get h2]; exact k.val i d h1
  own := fun i t o e => by
    obtain ⟨h1, h2⟩ := wipeE_some e
    rw [wipe_get h2]; exact k.own i t o h1
  dis := fun i j t u o p a e1 e2 q1 q2 => k.dis i j t u o p a (wipeE_some e1).1 (wipeE_some e2).1 (wipe_some q1).1 (wipe_some q2).1
  tab := k.tab
theorem Fr.wipe (f : Fr ρ0 σ0 G0 H0 ρ σ G H) (vs : List Nat) : Fr ρ0 σ0 G0 H0 (wipeE ρ vs) (L2.wipe σ vs) G H :=
  ⟨f.gro, fun a o h nt n => by
    obtain ⟨h1, h2, h3⟩ := f.keep a o h nt n
    exact ⟨h1, h2, fun z => h3 (own_wipe z)⟩, f.stay⟩
theorem Ok.updOff (k : Ok K T τ ρ σ G H) {a : Addr} {u : HO} (g : G a = none) (n : ¬ OwnAt ρ σ a) (tb : TabsG T G (upd H a u)) : Ok K T τ ρ σ G (upd H a u) where
  tab := tb
  sub := fun b x e => by
    have : b ≠ a := fun z => by subst z; rw [g] at e; cases e
    rw [upd_ne this]; exact k.sub _ _ e
  len := k.len
  val := k.val
  own := fun i t o e => by
    obtain ⟨b, q, h1, h2, h3⟩ := k.own i t o e
    have : b ≠ a := fun z => by subst z; exact n ⟨i, t, o, e, q⟩
    exact ⟨b, q, h1, h2.mono (Same.refl _) fun w hw _ => by rw [upd_ne this]; exact hw, h3⟩
  dis := k.dis
theorem Fr.updNew (f : Fr ρ0 σ0 G0 H0 ρ σ G H) {a : Addr} {u : HO} (h : H0 a = none) : Fr ρ0 σ0 G0 H0 ρ σ G (upd H a u) :=
  ⟨f.gro, fun b o hb nt n => by
    obtain ⟨h1, h2, h3⟩ := f.keep b o hb nt n
    exact ⟨by rw [upd_ne (ne_of_none hb h)]; exact h1, h2, h3⟩, fun b o hb => by
    obtain ⟨o', h1⟩ := f.stay b o hb
    exact ⟨o', by rw [upd_ne (ne_of_none hb h)]; exact h1⟩⟩
theorem Ok.back (k : Ok K T τ ρ σ G H) {vs : List Nat} (no : noOwn ρ vs = true) (s : Same G G') (k2 : Ok K T τ ρ' (L2.wipe σ vs) G' H') : Ok K T τ (backE ρ ρ' vs) σ G' H' where
  sub := k2.sub
  len := by rw [backE_len, k2.len, wipe_length]
  val := fun i d e => by
    rcases backE_some e with ⟨h1, h2⟩ | ⟨h1, h2⟩
    · obtain ⟨v, q1, q2⟩ := k.val i d h2
      exact ⟨v, q1, q2.mono s⟩
    · obtain ⟨v, q1, q2⟩ := k2.val i d h2
      rw [wipe_get h1] at q1
      exact ⟨v, q1, q2⟩
  own := fun i t o e => by
    rcases backE_some e with ⟨h1, h2⟩ | ⟨h1, h2⟩
    · exact absurd h2 (noOwn_of no h1)
    · obtain ⟨v, q1, q2⟩ := k2.own i t o h2
      rw [wipe_get h1] at q1
      exact ⟨v, q1, q2⟩
  dis := fun i j t u o p a e1 e2 q1 q2 => by
    rcases backE_some e1 with ⟨h1, h2⟩ | ⟨h1, h2⟩
    · exact absurd h2 (noOwn_of no h1)
    · rcases backE_some e2 with ⟨h3, h4⟩ | ⟨h3, h4⟩
      · exact absurd h4 (noOwn_of no h3)
      · exact k2.dis i j t u o p a h2 h4 (by rw [wipe_get h1]; exact q1) (by rw [wipe_get h3]; exact q2)
  tab := k2.tab
theorem own_back {vs : List Nat} (no : noOwn ρ vs = true) {a : Addr} (h : OwnAt (backE ρ ρ' vs) σ a) : OwnAt ρ' (L2.wipe σ vs) a := by
  obtain ⟨i, t, o, e, q⟩ := h
  rcases backE_some e with ⟨h1, h2⟩ | ⟨h1, h2⟩
  · exact absurd h2 (noOwn_of no h1)
  · exact ⟨i, t, o, h2, by rw [wipe_get h1]; exact q⟩
theorem Fr.back {vs : List Nat} (no : noOwn ρ vs = true) (f : Fr (wipeE ρ vs) (L2.wipe σ vs) G H ρ' (L2.wipe σ vs) G' H') : Fr ρ σ G H (backE ρ ρ' vs) σ G' H' :=
  ⟨f.gro, fun a o h nt n => by
    obtain ⟨h1, h2, h3⟩ := f.keep a o h nt fun z => n (own_wipe z)
    exact ⟨h1, h2, fun z => h3 (own_back no z)⟩, f.stay⟩
end
/-- the tests of a clause -/
def lcGo (vs : List Nat) (g : D → Env → Option Env) (t : DTn) (d : DEn) : List D → Env → List D → Option (Env × List D)
  | [], ρ, acc => some (ρ, acc)
  | x :: xs, ρ, acc => (g x ρ).bind fun ρ1 => match t ρ1 with
    | .ok (ρ2, true) => (match d ρ2 with
      | .ok (ρ3, y) => if acc.length + 1 ≤ 1000000 then lcGo vs g t d xs (wipeE ρ3 vs) (acc ++ [y]) else none
      | _ => none)
    | .ok (ρ2, false) => lcGo vs g t d xs (wipeE ρ2 vs) acc
    | _ => none
def oLc (di : DIn) (vs : List Nat) (g : D → Env → Option Env) (t : DTn) (d : DEn) : DOn := fun ρ => (di ρ).bind fun p => if noOwn p.1 vs = true then match lcGo vs g t d p.2 (wipeE p.1 vs) [] with
  | some q => .ok (backE p.1 q.1 vs, .fr (.lst q.2))
  | none => .bad
  else .bad
abbrev W0 : WX := fun _ _ _ _ => False
section
variable {X : Cx} {T : Tab} {W : WX} {pos : Pos}
structure DTs (X : Cx) (T : Tab) (ifs : List Expr) (d : DTn) : Prop where
  run : PTs X ifs (tTn X.K T W0 d)
def tTrue : DTn := fun ρ => .ok (ρ, true)
theorem dts_nil : DTs X T [] tTrue := ⟨⟨fun pins s σ H Q I q => pts_nil.run pins s σ H Q I (by obtain ⟨τ, ρ, G, k, q⟩ := q; exact q G H k Fr.refl)⟩⟩
theorem dts_one {c : Expr} {t : DTn} (h : DT X T W0 c t) : DTs X T [c] t := ⟨pts_one h⟩
structure LcI (K : PySem.W.Frag) (T : Tab) (τ : Nat → Addr) (ρw : Env) (σw : L2.St) (G1 H1 : Hp) (D : Addr) (ρ : Env) (G H : Hp) (acc : List Zd.D) : Prop where
  ok : Ok K T τ ρ σw G H
  fr : Fr ρw σw G1 H1 ρ σw G H
  at_ : ∃ xs, H D = some (.lst xs) ∧ RzL K T G xs acc
  off : G D = none
  no : ¬ OwnAt ρ σw D
theorem lc_of {K : PySem.W.Frag} {di : DIn} {is vs : List Nat} {g : D → Env → Option Env} {t : DTn} {d : DEn} (hv : ∀ i ∈ is, i ∈ vs) (σ : L2.St) (H : Hp) (Q : VK) (q : tO K T W (oLc di vs g t d) σ H Q) :
    tLc (tI K T W di) (tG K T W0 is g) (tTn K T W0 t) (tE K T W0 d) vs σ H Q := by
  obtain ⟨τ, ρ, G, k, q⟩ := q
  refine ⟨τ, ρ, G, k, (Out.bind0 q).imp fun ρ1 items G1 H1 k1 fr1 q1 J wk => fun D hD => ?_⟩
  dsimp only at q1
  by_cases no : noOwn ρ1 vs = true
  · rw [if_pos no] at q1
    cases er : lcGo vs g t d items (wipeE ρ1 vs) [] with
    | none => rw [er] at q1; exact q1.elim
    | some res =>
      rw [er] at q1
      have hg1 : G1 D = none := k1.sub.free hD
      have kw := k1.wipe vs
      have noD : ¬ OwnAt (wipeE ρ1 vs) (L2.wipe σ vs) D := fun z => by
        obtain ⟨u, hu⟩ := own_there kw z
        rw [hD] at hu; cases hu
      have start : LcI K T τ (wipeE ρ1 vs) (L2.wipe σ vs) G1 H1 D (wipeE ρ1 vs) G1 (upd H1 D (.lst [])) [] :=
        ⟨kw.updOff hg1 noD (kw.tab.ext (Same.upd hD)), Fr.refl.updNew hD, ⟨[], upd_same, RzL.nil⟩, hg1, noD⟩
      refine ⟨fun i m H => m = items.length - i ∧ i ≤ items.length ∧ ∃ ρ G acc, LcI K T τ (wipeE ρ1 vs) (L2.wipe σ vs) G1 H1 D ρ G H acc ∧ lcGo vs g t d (items.drop i) ρ acc = some res, ⟨_, rfl, Nat.zero_le _, _, _, _, start, by rw [List.drop_zero]; exact er⟩, fun i m H hW => ?_⟩
      obtain ⟨rfl, hi, ρ2, G2, acc, L, e2⟩ := hW
      obtain ⟨go, stop⟩ := wk i G2 H L.fr.gro L.ok.sub
      by_cases hlt : i < items.length
      · have hd : items[i]? = some items[i] := List.getElem?_eq_getElem hlt
        obtain ⟨h1, h2⟩ := go _ hd
        rw [List.drop_eq_getElem_cons hlt] at e2
        unfold lcGo at e2
        refine .inr ⟨h1, fun H' => ∃ ρ G acc, LcI K T τ (wipeE ρ1 vs) (L2.wipe σ vs) G1 H1 D ρ G H' acc ∧ lcGo vs g t d (items.drop (i + 1)) ρ acc = some res, fun H' hN => ⟨items.length - (i + 1), by omega, rfl, hlt, hN⟩, fun x H' hy => ?_⟩
        obtain ⟨G3, n, rz⟩ := h2 x H' hy
        have k3 := L.ok.new n
        cases eg : g items[i] ρ2 with
        | none => rw [eg] at e2; cases e2
        | some ρ3 =>
          rw [eg] at e2
          dsimp only [Option.bind_some] at e2
          refine ⟨τ, ρ2, G3, items[i], k3, rz, ρ3, eg, fun σ3 k4 f4 off => ⟨off.wipe hv, τ, ρ3, G3, k4, ?_⟩⟩
          have f03 : Fr (wipeE ρ1 vs) (L2.wipe σ vs) G1 H1 ρ3 σ3 G3 H' := L.fr.trans (n.fr.trans f4)
          obtain ⟨xs, hxs, rxs⟩ := L.at_
          obtain ⟨x1, x2, x3⟩ := (n.fr.trans f4).keep D _ hxs nt_lst L.no
          cases et : t ρ3 with
          | bad => rw [et] at e2; cases e2
          | ex _ _ => rw [et] at e2; cases e2
          | ok p =>
            obtain ⟨ρ4, b⟩ := p
            rw [et] at e2
            intro G4 H4 k5 f5
            obtain ⟨y1, y2, y3⟩ := f5.keep D _ x1 nt_lst x3
            cases b with
            | false =>
              dsimp only at e2
              rw [if_neg Bool.false_ne_true]
              have k6 := k5.wipe vs
              have f6 := (f03.trans f5).wipe vs
              rw [off.wipe hv] at k6 f6
              refine ⟨wipeE ρ4 vs, G4, acc, ⟨k6, f6, ⟨xs, y1, (rxs.mono n.gro).mono f5.gro⟩, by rw [y2, x2]; exact L.off, fun z => y3 ?_⟩, e2⟩
              rw [← off.wipe hv] at z
              exact own_wipe z
            | true =>
              dsimp only at e2
              rw [if_pos rfl]
              refine ⟨τ, ρ4, G4, k5, ?_⟩
              cases ed : d ρ4 with
              | bad => rw [ed] at e2; cases e2
              | ex _ _ => rw [ed] at e2; cases e2
              | ok p =>
                obtain ⟨ρ5, y⟩ := p
                rw [ed] at e2
                dsimp only at e2
                by_cases hz : acc.length + 1 ≤ 1000000
                · rw [if_pos hz] at e2
                  intro G5 H5 k6 f6 v rv
                  obtain ⟨z1, z2, z3⟩ := f6.keep D _ y1 nt_lst y3
                  refine ⟨xs, z1, lt_line (by rw [rxs.len]; exact hz), ?_⟩
                  have k7 := k6.wipe vs
                  have f7 := ((f03.trans f5).trans f6).wipe vs
                  rw [off.wipe hv] at k7 f7
                  have z5 : ¬ OwnAt (wipeE ρ5 vs) (L2.wipe σ vs) D := fun z => by
                    rw [← off.wipe hv] at z
                    exact z3 (own_wipe z)
                  have z6 : G5 D = none := by rw [z2, y2, x2]; exact L.off
                  exact ⟨wipeE ρ5 vs, G5, acc ++ [y], ⟨k7.updOff z6 z5 (RO.tabsG (K := K) (T := T) (G := G5) (o := .lst acc) ⟨xs, z1, ((rxs.mono n.gro).mono f5.gro).mono f6.gro⟩ k7.tab), f7.updNew hD, ⟨_, upd_same, (((rxs.mono n.gro).mono f5.gro).mono f6.gro).append (RzL.cons rv RzL.nil)⟩, z6, z5⟩, e2⟩
                · rw [if_neg hz] at e2; cases e2
      · have e : i = items.length := by omega
        subst e
        rw [List.drop_length] at e2
        unfold lcGo at e2
        cases e2
        obtain ⟨xs, hxs, rxs⟩ := L.at_
        refine .inl ⟨stop rfl, q1 G2 H (k1.back no L.fr.gro L.ok) (fr1.trans (Fr.back no L.fr)) _ ⟨D, rfl, L.off, ⟨xs, hxs, rxs⟩, fun z => L.no (own_back no z)⟩ fun o _ => ⟨D, rfl, fr1.free hD⟩⟩
  · rw [if_neg no] at q1; exact q1.elim
theorem do_lc {elt tg iter : Expr} {ifs : List Expr} {scope : Scope} {own : List (Str × Nat)} {is : List Nat} {di : DIn} {g : D → Env → Option Env} {t : DTn} {d : DEn} (hc : X.calm = true) (hN : X.N.Nodup) (ok : blkC X.N X.env.scope scope own = true) (hv : ∀ i ∈ is, i ∈ own.map (·.2)) (hi : DI X T W tg iter di)
    (hg : ∀ (s : Shared) (H : Hp) (C : Addr) (cl : List (Str × Addr)) (fp : List Addr), DG (X.blk s H scope (compEnvC scope cl C X.env) fp) T W0 tg is g)
    (ht : ∀ (s : Shared) (H : Hp) (C : Addr) (cl : List (Str × Addr)) (fp : List Addr), DTs (X.blk s H scope (compEnvC scope cl C X.env) fp) T ifs t)
    (he : ∀ (s : Shared) (H : Hp) (C : Addr) (cl : List (Str × Addr)) (fp : List Addr), DE (X.blk s H scope (compEnvC scope cl C X.env) fp) T W0 elt d)
    (hs : ∀ x, foldedSetIterable iter X.env x = pure x := by intro _; rfl) : DO X T W (.ListComp elt [⟨tg, iter, ifs, 0⟩] scope pos) (oLc di (own.map (·.2)) g t d) :=
  PE.imp (pe_lc (wi := tI X.K T W di) (g := tG X.K T W0 is g) (tt := tTn X.K T W0 t) (te := tE X.K T W0 d) hc hN hi (blkOk_by ok) hg (fun s H C cl fp => (ht s H C cl fp).run) he hs) fun σ H Q q => lc_of hv σ H Q q
/-- x = [..] on one line -/
theorem ds_setLc {i : Nat} {y : Str} {py : Pos} {elt tg iter : Expr} {ifs : List Expr} {scope : Scope} {own : List (Str × Nat)} {is : List Nat} {spos : Pos} {di : DIn} {g : D → Env → Option Env} {t : DTn} {d : DEn} (hc : X.calm = true) (hN : X.N.Nodup) (ok : blkC X.N X.env.scope scope own = true) (hv : ∀ i ∈ is, i ∈ own.map (·.2)) (hi : DI X T W tg iter di)
    (hg : ∀ (s : Shared) (H : Hp) (C : Addr) (cl : List (Str × Addr)) (fp : List Addr), DG (X.blk s H scope (compEnvC scope cl C X.env) fp) T W0 tg is g)
    (ht : ∀ (s : Shared) (H : Hp) (C : Addr) (cl : List (Str × Addr)) (fp : List Addr), DTs (X.blk s H scope (compEnvC scope cl C X.env) fp) T ifs t)
    (he : ∀ (s : Shared) (H : Hp) (C : Addr) (cl : List (Str × Addr)) (fp : List Addr), DE (X.blk s H scope (compEnvC scope cl C X.env) fp) T W0 elt d)
    (hsw : swapsWith (.ListComp elt [⟨tg, iter, ifs, 0⟩] scope pos) (some (.Name y py)) spos.line X.env = pure true)
    (hy : X.N[i]? = some y := by rfl) (hyl : X.env.scope.names.lookup y = some .local := by rfl) 
    (hs : ∀ x, foldedSetIterable iter X.env x = pure x := by intro _; rfl) : DS X T W (.Assign [.Name y py] (.ListComp elt [⟨tg, iter, ifs, 0⟩] scope pos) spos) (dSet i (oLc di (own.map (·.2)) g t d)) := by
  exact PS.imp (ps_setLc (wi := tI X.K T W di) (g := tG X.K T W0 is g) (tt := tTn X.K T W0 t) (te := tE X.K T W0 d) hc hN hy hyl hsw hi (blkOk_by ok) hg (fun s H C cl fp => (ht s H C cl fp).run) he hs) fun D σ H q => lc_of hv σ H _ (tSet_of D σ H q)
end
end Zd
end
section
/-! Zd 10: defs: what they promise, calls, methods, makings. -/
namespace Zd
open PySem PySem.Spec PyProof.Rows L2
set_option autoImplicit false
/-- what a call does: outs: what has become of the owned arguments -/
inductive CR_ where
  | ok (outs : List (Option OD)) (d : D) | ex (outs : List (Option OD)) (x : Exc) | bad
abbrev CF := List B → CR_
def ArgsAt (K : PySem.W.Frag) (T : Tab) (G H : Hp) : List V → List B → Prop
  | [], [] => True
  | v :: vs, b :: bs => (match b with
    | .val d => Rz K T G v d
    | .own _ o => ∃ a, v = .ref a ∧ G a = none ∧ RO K T G H a o) ∧ ArgsAt K T G H vs bs
  | _, _ => False
def Passed (vs : List V) (bs : List B) (a : Addr) : Prop := ∃ (j t : Nat) (o : OD), bs[j]? = some (.own t o) ∧ vs[j]? = some (V.ref a)
def Dist (vs : List V) (bs : List B) : Prop := ∀ (i j t u : Nat) (o p : OD) (a : Addr), bs[i]? = some (.own t o) → bs[j]? = some (.own u p) → vs[i]? = some (V.ref a) → vs[j]? = some (V.ref a) → i = j
structure Ret (K : PySem.W.Frag) (T : Tab) (G H : Hp) (vs : List V) (bs : List B) (outs : List (Option OD)) (G' H' : Hp) : Prop where
  sub : Same G' H'
  gro : Same G G'
  keep : ∀ a o, H a = some o → NT o → ¬ Passed vs bs a → H' a = some o ∧ G' a = G a
  tab : TabsG T G' H'
  stay : ∀ a o, H a = some o → ∃ o', H' a = some o'
  out : ∀ (j t : Nat) (o : OD), bs[j]? = some (.own t o) → ∃ o' a, outs[j]? = some (some o') ∧ vs[j]? = some (V.ref a) ∧ G' a = none ∧ RO K T G' H' a o'
def spOf (K : PySem.W.Frag) (T : Tab) (n : Nat) (F : CF) : Sp := fun vs H Q E => vs.length = n ∧ ∃ G bs, TabsG T G H ∧ Same G H ∧ ArgsAt K T G H vs bs ∧ Dist vs bs ∧ match F bs with
  | .ok outs d => ∀ v G' H', Ret K T G H vs bs outs G' H' → Rz K T G' v d → Q v H'
  | .ex outs x => ∀ cls dx G' H', Ret K T G H vs bs outs G' H' → XOk K T G' H' cls dx x → E cls dx H'
  | .bad => False
theorem ArgsAt.len {K : PySem.W.Frag} {T : Tab} {G H : Hp} : ∀ {vs : List V} {bs : List B}, ArgsAt K T G H vs bs → vs.length = bs.length
  | [], [], _ => rfl
  | v :: vs, b :: bs, h => by rw [List.length_cons, List.length_cons, ArgsAt.len h.2]
  | [], _ :: _, h => h.elim
  | _ :: _, [], h => h.elim
theorem ArgsAt.val {K : PySem.W.Frag} {T : Tab} {G H : Hp} : ∀ {vs : List V} {bs : List B} {j : Nat} {d : D}, ArgsAt K T G H vs bs → bs[j]? = some (.val d) → ∃ v, vs[j]? = some v ∧ Rz K T G v d
  | [], [], _, _, _, e => by simp at e
  | v :: vs, b :: bs, 0, d, h, e => by
    simp at e; subst e
    exact ⟨v, rfl, h.1⟩
  | v :: vs, b :: bs, j + 1, d, h, e => by
    obtain ⟨w, h1, h2⟩ := ArgsAt.val (j := j) h.2 (by simpa using e)
    exact ⟨w, by simpa using h1, h2⟩
  | [], _ :: _, _, _, h, _ => h.elim
  | _ :: _, [], _, _, h, _ => h.elim
theorem ArgsAt.own {K : PySem.W.Frag} {T : Tab} {G H : Hp} : ∀ {vs : List V} {bs : List B} {j t : Nat} {o : OD}, ArgsAt K T G H vs bs → bs[j]? = some (.own t o) → ∃ a, vs[j]? = some (V.ref a) ∧ G a = none ∧ RO K T G H a o
  | [], [], _, _, _, _, e => by simp at e
  | v :: vs, b :: bs, 0, t, o, h, e => by
    simp at e; subst e
    obtain ⟨a, rfl, h1, h2⟩ := h.1
    exact ⟨a, rfl, h1, h2⟩
  | v :: vs, b :: bs, j + 1, t, o, h, e => by
    obtain ⟨w, h1, h2⟩ := ArgsAt.own (j := j) h.2 (by simpa using e)
    exact ⟨w, by simpa using h1, h2⟩
  | [], _ :: _, _, _, _, h, _ => h.elim
  | _ :: _, [], _, _, _, h, _ => h.elim
/-! ### the callee -/
def retag (j : Nat) : B → B
  | .val d => .val d
  | .own _ o => .own (j + 1) o
def startE (n : Nat) (bs : List B) : Env := (bs.mapIdx fun j b => some (retag j b)) ++ List.replicate (n - bs.length) none
def findTag (t : Nat) : Env → Option OD
  | [] => none
  | b :: r => match b with
    | some (.own u o) => if u = t then some o else findTag t r
    | _ => findTag t r
theorem findTag_of {t : Nat} {o : OD} : ∀ {ρ : Env}, findTag t ρ = some o → ∃ i : Nat, ρ[i]? = some (some (B.own t o))
  | [], h => by cases h
  | b :: r, h => by
    unfold findTag at h
    split at h
    · rename_i u o'
      by_cases e : u = t
      · rw [if_pos e] at h; cases h
        exact ⟨0, by rw [e]; rfl⟩
      · rw [if_neg e] at h
        obtain ⟨i, h⟩ := findTag_of h
        exact ⟨i + 1, h⟩
    · obtain ⟨i, h⟩ := findTag_of h
      exact ⟨i + 1, h⟩
def outsOf (ρ : Env) : Nat → List B → Option (List (Option OD))
  | _, [] => some []
  | j, .val _ :: bs => (outsOf ρ (j + 1) bs).map (none :: ·)
  | j, .own _ _ :: bs => match findTag (j + 1) ρ with
    | some o => (outsOf ρ (j + 1) bs).map (some o :: ·)
    | none => none
theorem outsOf_get {ρ : Env} : ∀ {bs : List B} {j0 j t : Nat} {o : OD} {outs : List (Option OD)}, outsOf ρ j0 bs = some outs → bs[j]? = some (.own t o) → ∃ o', outs[j]? = some (some o') ∧ findTag (j0 + j + 1) ρ = some o'
  | [], _, j, _, _, _, _, e => by simp at e
  | .val d :: bs, j0, 0, t, o, outs, h, e => by simp at e
  | .val d :: bs, j0, j + 1, t, o, outs, h, e => by
    unfold outsOf at h
    cases q : outsOf ρ (j0 + 1) bs with
    | none => rw [q] at h; cases h
    | some l =>
      rw [q] at h; cases h
      obtain ⟨o', h1, h2⟩ := outsOf_get q (j := j) (by simpa using e)
      exact ⟨o', by simpa using h1, by rw [← h2]; congr 1; omega⟩
  | .own u p :: bs, j0, j, t, o, outs, h, e => by
    unfold outsOf at h
    split at h
    · rename_i o' ho
      cases q : outsOf ρ (j0 + 1) bs with
      | none => rw [q] at h; cases h
      | some l =>
        rw [q] at h; cases h
        cases j with
        | zero => exact ⟨o', rfl, ho⟩
        | succ j =>
          obtain ⟨o2, h1, h2⟩ := outsOf_get q (j := j) (by simpa using e)
          exact ⟨o2, by simpa using h1, by rw [← h2]; congr 1; omega⟩
    · cases h
def fin_ (ρ : Env) (bs : List B) (d : D) : CR_ := match outsOf ρ 0 bs with
  | some outs => .ok outs d
  | none => .bad
def cfOf (n np : Nat) (d : DSn) : CF := fun bs => if bs.length = np then match d (startE n bs) with
  | .ok (ρ, .rt r) => fin_ ρ bs r
  | .ok (ρ, .nx) => fin_ ρ bs .non
  | .ex ρ x => (match outsOf ρ 0 bs with
    | some outs => .ex outs x
    | none => .bad)
  | _ => .bad
  else .bad
/-- the arguments' addresses -/
def tauOf (vs : List V) : Nat → Addr := fun t => match vs[t - 1]? with
  | some (.ref a) => a
  | _ => 0
theorem startE_some {n j : Nat} {bs : List B} {b : B} (h : (startE n bs)[j]? = some (some b)) : ∃ b', bs[j]? = some b' ∧ b = retag j b' := by
  unfold startE at h
  by_cases hj : j < bs.length
  · rw [List.getElem?_append_left (by rw [List.length_mapIdx]; exact hj), List.getElem?_mapIdx] at h
    rw [List.getElem?_eq_getElem hj] at h ⊢
    cases h
    exact ⟨_, rfl, rfl⟩
  · rw [List.getElem?_append_right (by rw [List.length_mapIdx]; omega), List.getElem?_replicate] at h
    split at h <;> cases h
theorem start_at {N : List Str} {vs : List V} {j : Nat} {v : V} (h : vs[j]? = some v) : (L2.start N vs)[j]? = some (some v) := by
  unfold L2.start
  have hj := (List.getElem?_eq_some_iff.mp h).1
  rw [List.getElem?_append_left (by rw [List.length_map]; exact hj), List.getElem?_map, h]
  rfl
theorem start_back {N : List Str} {vs : List V} {j : Nat} {v : V} (h : (L2.start N vs)[j]? = some (some v)) : vs[j]? = some v := by
  unfold L2.start at h
  by_cases hj : j < vs.length
  · rw [List.getElem?_append_left (by rw [List.length_map]; exact hj), List.getElem?_map] at h
    cases e : vs[j]? with
    | none => rw [e] at h; cases h
    | some w => rw [e] at h; cases h; rfl
  · rw [List.getElem?_append_right (by rw [List.length_map]; omega), List.getElem?_replicate] at h
    split at h <;> cases h
section
variable {K : PySem.W.Frag} {T : Tab} {G H G' H' : Hp} {vs : List V} {bs : List B} {N : List Str}
theorem ok_start (tb : TabsG T G H) (s : Same G H) (h : ArgsAt K T G H vs bs) (d : Dist vs bs) : Ok K T (tauOf vs) (startE N.length bs) (L2.start N vs) G H where
  sub := s
  tab := tb
  len := by
    unfold startE L2.start
    rw [List.length_append, List.length_append, List.length_mapIdx, List.length_replicate, List.length_map, List.length_replicate, h.len]
  val := fun i d e => by
    obtain ⟨b, h1, h2⟩ := startE_some e
    cases b with
    | own t o => cases h2
    | val d' =>
      cases h2
      obtain ⟨v, h3, h4⟩ := h.val h1
      exact ⟨v, start_at h3, h4⟩
  own := fun i t o e => by
    obtain ⟨b, h1, h2⟩ := startE_some e
    cases b with
    | val d' => cases h2
    | own t' o' =>
      cases h2
      obtain ⟨a, h3, h4, h5⟩ := h.own h1
      refine ⟨a, start_at h3, h4, h5, fun _ => ?_⟩
      unfold tauOf
      rw [Nat.add_sub_cancel, h3]
  dis := fun i j t u o p a e1 e2 q1 q2 => by
    obtain ⟨b, h1, h2⟩ := startE_some e1
    obtain ⟨b', h3, h4⟩ := startE_some e2
    cases b with
    | val d' => cases h2
    | own t' o' =>
      cases b' with
      | val d' => cases h4
      | own u' p' => exact d i j _ _ _ _ a h1 h3 (start_back q1) (start_back q2)
theorem own_start {a : Addr} (h : OwnAt (startE N.length bs) (L2.start N vs) a) : Passed vs bs a := by
  obtain ⟨i, t, o, e, q⟩ := h
  obtain ⟨b, h1, h2⟩ := startE_some e
  cases b with
  | val d' => cases h2
  | own t' o' => exact ⟨i, t', o', h1, start_back q⟩
theorem ret_of {ρ : Env} {σ : L2.St} {outs : List (Option OD)} (h : ArgsAt K T G H vs bs) (k : Ok K T (tauOf vs) ρ σ G' H') (f : Fr (startE N.length bs) (L2.start N vs) G H ρ σ G' H') (e : outsOf ρ 0 bs = some outs) : Ret K T G H vs bs outs G' H' :=
  ⟨k.sub, f.gro, fun a o ha nt n => by
    obtain ⟨h1, h2, _⟩ := f.keep a o ha nt fun z => n (own_start z)
    exact ⟨h1, h2⟩, k.tab, f.stay, fun j t o hj => by
    obtain ⟨o', h1, h2⟩ := outsOf_get e hj
    obtain ⟨i, h3⟩ := findTag_of h2
    obtain ⟨a, q1, q2, q3, q4⟩ := k.own i _ o' h3
    obtain ⟨a', h4, _⟩ := h.own hj
    have h5 : tauOf vs (0 + j + 1) = a' := by
      unfold tauOf
      rw [Nat.add_sub_cancel, Nat.zero_add, h4]
    rw [q4 (by omega)] at h5
    exact ⟨o', a', h1, h4, h5 ▸ q2, h5 ▸ q3⟩⟩
/-- from the body to the promise -/
theorem tS_spOf {d : DSn} {n : Nat} {Q : VK} {E : XK} (h : spOf K T n (cfOf N.length n d) vs H Q E) : tS K T (fun cls dx _ H => E cls dx H) d { nx := fun _ H' => Q .non H', rt := Q } (L2.start N vs) H := by
  obtain ⟨hl, G, bs, tb, s, ha, hd, h⟩ := h
  refine ⟨tauOf vs, startE N.length bs, G, ok_start tb s ha hd, ?_⟩
  unfold cfOf at h
  by_cases hn : bs.length = n
  · rw [if_pos hn] at h
    cases e : d (startE N.length bs) with
    | bad => rw [e] at h; exact h.elim
    | ex ρ x =>
      rw [e] at h
      dsimp only at h
      cases eo : outsOf ρ 0 bs with
      | none => rw [eo] at h; exact h.elim
      | some outs =>
        rw [eo] at h
        exact fun cls dx σ' G' H' k f xo => h cls dx G' H' (ret_of ha k f eo) xo
    | ok p =>
      obtain ⟨ρ, fl⟩ := p
      rw [e] at h
      cases fl with
      | bk => exact h.elim
      | ct => exact h.elim
      | nx =>
        dsimp only [fin_] at h
        cases eo : outsOf ρ 0 bs with
        | none => rw [eo] at h; exact h.elim
        | some outs =>
          rw [eo] at h
          exact fun σ' G' H' k f => h _ G' H' (ret_of ha k f eo) Rz.non_
      | rt r =>
        dsimp only [fin_] at h
        cases eo : outsOf ρ 0 bs with
        | none => rw [eo] at h; exact h.elim
        | some outs =>
          rw [eo] at h
          exact fun v σ' G' H' k f rz => h v G' H' (ret_of ha k f eo) rz
  · rw [if_neg hn] at h; exact h.elim
end
abbrev WB (E : XK) : WX := fun cls dx _ H => E cls dx H
/-- THE RULE for a def -/
theorem fn_spec {P : Program} {w : World} {K : PySem.W.Frag} {mg : Str → Option Value} {base : Heap} {x qual : Str} {params : Arguments} {body : List Stmt} {scope : Scope} {dvs : List V} {kws : List (Str × V)} {f : Addr} {fd : FuncData} {N ps : List Str} {k : Nat} {T : Tab} {d : DSn}
    (F : FunD K x qual params body scope dvs kws f fd) (S : FnScope N ps scope)
    (hbody : ∀ (cdv : Value) (A : Around) (outer : List PySem.Env) (s : Shared) (H : Hp) (E : XK), Room k (A.deeper (envOfC qual scope s.heap.objs.size f cdv)) →
      DSs (cxOf (L2.CX P w) P w K mg base N qual scope f cdv A outer s H E) T (WB E) body d) : FnOk P w K mg base (L2.CX P w) (k + 1) f fd ps (spOf K T ps.length (cfOf N.length ps.length d)) :=
  F.ok S (fun vs H Q E h => h.1) fun cdv A outer s H vs Q E hr h => ⟨_, hbody cdv A outer s H E hr, tS_spOf h⟩
/-! ### the caller -/
def argB (ρ : Env) : Op → Option B
  | .v d => some (.val d)
  | .pl i => ρ[i]?.join
  | .fr _ => none
def argsB (ρ : Env) : List Op → Option (List B)
  | [] => some []
  | o :: os => match argB ρ o, argsB ρ os with
    | some b, some bs => some (b :: bs)
    | _, _ => none
/-- the places of owned objects, each once -/
def ownPl (ρ : Env) : List Op → List Nat
  | [] => []
  | o :: os => match o with
    | .pl i => (match ρ[i]? with
      | some (some (.own _ _)) => i :: ownPl ρ os
      | _ => ownPl ρ os)
    | _ => ownPl ρ os
def wb1 (ρ : Env) (o : Op) (u : Option OD) : Env := match o, u with
  | .pl i, some o' => (match ρ[i]? with
    | some (some (.own t _)) => ρ.set i (some (.own t o'))
    | _ => ρ)
  | _, _ => ρ
def wb (ρ : Env) : List Op → List (Option OD) → Env
  | o :: os, u :: us => wb (wb1 ρ o u) os us
  | _, _ => ρ
def nodupB : List Nat → Bool
  | [] => true
  | a :: l => !(l.contains a) && nodupB l
theorem nodupB_of : ∀ {l : List Nat}, nodupB l = true → l.Nodup
  | [], _ => List.nodup_nil
  | a :: l, h => by
    unfold nodupB at h
    simp only [Bool.and_eq_true, Bool.not_eq_true'] at h
    exact List.nodup_cons.mpr ⟨by simpa using h.1, nodupB_of h.2⟩
def dCall (F : CF) (a : DAn) : DEn := fun ρ => (a ρ).bind fun p => match argsB p.1 p.2 with
  | some bs => if nodupB (ownPl p.1 p.2) = true then match F bs with
    | .ok outs d => .ok (wb p.1 p.2 outs, d)
    | .ex outs x => .ex (wb p.1 p.2 outs) x
    | .bad => .bad
    else .bad
  | none => .bad
theorem argsB_get {ρ : Env} : ∀ {os : List Op} {bs : List B} {j : Nat} {b : B}, argsB ρ os = some bs → bs[j]? = some b → ∃ o, os[j]? = some o ∧ argB ρ o = some b
  | [], bs, j, b, h, e => by cases h; simp at e
  | o :: os, bs, j, b, h, e => by
    unfold argsB at h
    split at h
    · rename_i b' bs' h1 h2
      cases h
      cases j with
      | zero => simp at e; subst e; exact ⟨o, rfl, h1⟩
      | succ j =>
        obtain ⟨o', q1, q2⟩ := argsB_get h2 (j := j) (by simpa using e)
        exact ⟨o', by simpa using q1, q2⟩
    · cases h
theorem argsB_at {ρ : Env} : ∀ {os : List Op} {bs : List B} {j : Nat} {o : Op}, argsB ρ os = some bs → os[j]? = some o → ∃ b, bs[j]? = some b ∧ argB ρ o = some b
  | [], bs, j, o, h, e => by simp at e
  | o :: os, bs, j, o', h, e => by
    unfold argsB at h
    split at h
    · rename_i b' bs' h1 h2
      cases h
      cases j with
      | zero => simp at e; subst e; exact ⟨b', rfl, h1⟩
      | succ j =>
        obtain ⟨b, q1, q2⟩ := argsB_at h2 (j := j) (by simpa using e)
        exact ⟨b, by simpa using q1, q2⟩
    · cases h
theorem argB_own {ρ : Env} {o : Op} {t : Nat} {od : OD} (h : argB ρ o = some (.own t od)) : ∃ i, o = .pl i ∧ ρ[i]? = some (some (.own t od)) := by
  cases o with
  | v d => cases h
  | fr o => cases h
  | pl i =>
    have h : ρ[i]?.join = some (B.own t od) := h
    cases e : ρ[i]? with
    | none => rw [e] at h; cases h
    | some b =>
      rw [e] at h
      exact ⟨i, rfl, by rw [show b = some (B.own t od) from h] at e; exact e⟩
theorem ownPl_mem {ρ : Env} {i t : Nat} {o : OD} (h : ρ[i]? = some (some (B.own t o))) : ∀ {os : List Op} {j : Nat}, os[j]? = some (.pl i) → i ∈ ownPl ρ os
  | [], j, e => by simp at e
  | o' :: os, 0, e => by
    simp at e; subst e
    unfold ownPl
    simp only [h]
    exact List.mem_cons_self
  | o' :: os, j + 1, e => by
    have := ownPl_mem h (os := os) (j := j) (by simpa using e)
    unfold ownPl
    split
    · split
      · exact List.mem_cons_of_mem _ this
      · exact this
    · exact this
theorem ownPl_inj {ρ : Env} {i t : Nat} {o : OD} (h : ρ[i]? = some (some (B.own t o))) : ∀ {os : List Op} {j l : Nat}, (ownPl ρ os).Nodup → os[j]? = some (.pl i) → os[l]? = some (.pl i) → j = l
  | [], j, l, _, e, _ => by simp at e
  | o' :: os, 0, 0, _, _, _ => rfl
  | o' :: os, 0, l + 1, nd, e, e2 => by
    simp at e; subst e
    have := ownPl_mem h (os := os) (j := l) (by simpa using e2)
    unfold ownPl at nd
    simp only [h] at nd
    exact absurd this (List.nodup_cons.mp nd).1
  | o' :: os, j + 1, 0, nd, e, e2 => by
    simp at e2; subst e2
    have := ownPl_mem h (os := os) (j := j) (by simpa using e)
    unfold ownPl at nd
    simp only [h] at nd
    exact absurd this (List.nodup_cons.mp nd).1
  | o' :: os, j + 1, l + 1, nd, e, e2 => by
    have nd2 : (ownPl ρ os).Nodup := by
      unfold ownPl at nd
      split at nd
      · split at nd
        · exact (List.nodup_cons.mp nd).2
        · exact nd
      · exact nd
    rw [ownPl_inj h nd2 (j := j) (l := l) (by simpa using e) (by simpa using e2)]
/-- what stands in a slot behind the call: owned objects have been changed at the most -/
structure WbAt (ρ : Env) (os : List Op) (us : List (Option OD)) (ρ' : Env) : Prop where
  len : ρ'.length = ρ.length
  val : ∀ (i : Nat) (d : D), ρ'[i]? = some (some (B.val d)) → ρ[i]? = some (some (B.val d))
  own : ∀ (i t : Nat) (o : OD), ρ'[i]? = some (some (B.own t o)) → ∃ p, ρ[i]? = some (some (B.own t p)) ∧ ((p = o ∧ ∀ j : Nat, os[j]? = some (Op.pl i) → ∀ u, us[j]? ≠ some (some u)) ∨ ∃ j : Nat, os[j]? = some (Op.pl i) ∧ us[j]? = some (some o))
theorem wb_at : ∀ (os : List Op) (us : List (Option OD)) (ρ : Env), WbAt ρ os us (wb ρ os us)
  | [], us, ρ => ⟨rfl, fun _ _ h => h, fun i t o h => ⟨o, h, .inl ⟨rfl, fun j e => by simp at e⟩⟩⟩
  | o' :: os, [], ρ => ⟨rfl, fun _ _ h => h, fun i t o h => ⟨o, h, .inl ⟨rfl, fun j e u z => by simp at z⟩⟩⟩
  | o' :: os, u :: us, ρ => by
    have ih := wb_at os us (wb1 ρ o' u)
    have hstep : (wb1 ρ o' u = ρ ∧ ∀ i p, o' = .pl i → u = some p → ∀ t o, ρ[i]? ≠ some (some (B.own t o))) ∨ ∃ i t p q, o' = .pl i ∧ u = some q ∧ ρ[i]? = some (some (B.own t p)) ∧ wb1 ρ o' u = ρ.set i (some (.own t q)) := by
      unfold wb1
      split
      · rename_i i q
        split
        · rename_i t p h
          exact .inr ⟨i, t, p, q, rfl, rfl, h, rfl⟩
        · rename_i h
          refine .inl ⟨rfl, fun i' p e1 e2 t o z => ?_⟩
          cases e1
          exact h t o z
      · rename_i h
        refine .inl ⟨rfl, fun i' p e1 e2 t o z => h i' p e1 e2⟩
    refine ⟨?_, fun i d h => ?_, fun i t o h => ?_⟩
    · show (wb (wb1 ρ o' u) os us).length = _
      rw [ih.len]
      rcases hstep with ⟨e, _⟩ | ⟨i, t, p, q, _, _, _, e⟩
      · rw [e]
      · rw [e, List.length_set]
    · have h1 := ih.val i d h
      rcases hstep with ⟨e, _⟩ | ⟨i', t, p, q, _, _, h2, e⟩
      · rw [e] at h1; exact h1
      · rw [e] at h1
        by_cases hi : i' = i
        · subst hi
          rw [List.getElem?_set_self (List.getElem?_eq_some_iff.mp h2).1] at h1
          cases h1
        · rw [List.getElem?_set_ne hi] at h1; exact h1
    · obtain ⟨p, h1, h2⟩ := ih.own i t o h
      rcases hstep with ⟨e, no⟩ | ⟨i', t', p', q, e1, e2, h3, e⟩
      · rw [e] at h1
        refine ⟨p, h1, ?_⟩
        rcases h2 with ⟨h2, h4⟩ | ⟨j, h2, h4⟩
        · refine .inl ⟨h2, fun j e5 w e6 => ?_⟩
          cases j with
          | zero => simp at e5 e6; exact no i w e5 e6 t p h1
          | succ j => exact h4 j (by simpa using e5) w (by simpa using e6)
        · exact .inr ⟨j + 1, by simpa using h2, by simpa using h4⟩
      · rw [e] at h1
        by_cases hi : i' = i
        · subst hi
          rw [List.getElem?_set_self (List.getElem?_eq_some_iff.mp h3).1] at h1
          cases h1
          refine ⟨p', h3, ?_⟩
          rcases h2 with ⟨h2, h4⟩ | ⟨j, h2, h4⟩
          · subst h2
            exact .inr ⟨0, by rw [e1]; rfl, by rw [e2]; rfl⟩
          · exact .inr ⟨j + 1, by simpa using h2, by simpa using h4⟩
        · rw [List.getElem?_set_ne hi] at h1
          refine ⟨p, h1, ?_⟩
          rcases h2 with ⟨h2, h4⟩ | ⟨j, h2, h4⟩
          · refine .inl ⟨h2, fun j e5 w e6 => ?_⟩
            cases j with
            | zero =>
              simp at e5
              rw [e1] at e5
              injection e5 with e5
              exact hi e5
            | succ j => exact h4 j (by simpa using e5) w (by simpa using e6)
          · exact .inr ⟨j + 1, by simpa using h2, by simpa using h4⟩
section
variable {K : PySem.W.Frag} {T : Tab} {τ : Nat → Addr} {ρ : Env} {σ : L2.St} {G H G' H' : Hp}
theorem RpOps.get : ∀ {vs : List V} {os : List Op} {j : Nat} {o : Op}, RpOps K T ρ σ G H vs os → os[j]? = some o → ∃ v, vs[j]? = some v ∧ RpOp K T ρ σ G H v o
  | [], [], _, _, _, e => by simp at e
  | v :: vs, o :: os, 0, o', h, e => by simp at e; subst e; exact ⟨v, rfl, h.1⟩
  | v :: vs, o :: os, j + 1, o', h, e => by
    obtain ⟨w, h1, h2⟩ := RpOps.get (j := j) h.2.1 (by simpa using e)
    exact ⟨w, by simpa using h1, h2⟩
  | [], _ :: _, _, _, h, _ => h.elim
  | _ :: _, [], _, _, h, _ => h.elim
theorem args_at (k : Ok K T τ ρ σ G H) : ∀ {vs : List V} {os : List Op} {bs : List B}, RpOps K T ρ σ G H vs os → argsB ρ os = some bs → ArgsAt K T G H vs bs
  | [], [], bs, _, e => by cases e; trivial
  | v :: vs, o :: os, bs, r, e => by
    unfold argsB at e
    split at e
    · rename_i b bs' h1 h2
      cases e
      refine ⟨?_, args_at k r.2.1 h2⟩
      cases o with
      | v d => cases h1; exact r.1
      | fr o => cases h1
      | pl i =>
        have hb : ρ[i]? = some (some b) := by
          have h1 : ρ[i]?.join = some b := h1
          cases e : ρ[i]? with
          | none => rw [e] at h1; cases h1
          | some b' => rw [e] at h1; rw [show b' = some b from h1]
        have hv : σ[i]? = some (some v) := r.1
        cases b with
        | val d =>
          obtain ⟨v', q1, q2⟩ := k.val i d hb
          rw [hv] at q1; cases q1
          exact q2
        | own t o =>
          obtain ⟨a, q1, q2, q3, _⟩ := k.own i t o hb
          rw [hv] at q1; cases q1
          exact ⟨a, rfl, q2, q3⟩
    · cases e
  | [], _ :: _, _, r, _ => r.elim
  | _ :: _, [], _, r, _ => r.elim
theorem own_arg {vs : List V} {os : List Op} {bs : List B} (rv : RpOps K T ρ σ G H vs os) (e : argsB ρ os = some bs) {j t : Nat} {o : OD} {a : Addr} (h : bs[j]? = some (.own t o)) (hv : vs[j]? = some (V.ref a)) : ∃ i, os[j]? = some (.pl i) ∧ ρ[i]? = some (some (B.own t o)) ∧ σ[i]? = some (some (V.ref a)) := by
  obtain ⟨op, h1, h2⟩ := argsB_get e h
  obtain ⟨i, rfl, h3⟩ := argB_own h2
  obtain ⟨v, h4, h5⟩ := rv.get h1
  rw [hv] at h4; cases h4
  exact ⟨i, h1, h3, h5⟩
theorem dist_args (k : Ok K T τ ρ σ G H) {vs : List V} {os : List Op} {bs : List B} (rv : RpOps K T ρ σ G H vs os) (e : argsB ρ os = some bs) (nd : (ownPl ρ os).Nodup) : Dist vs bs := fun i j t u o p a h1 h2 h3 h4 => by
  obtain ⟨m, e1, e2, e3⟩ := own_arg rv e h1 h3
  obtain ⟨n, e4, e5, e6⟩ := own_arg rv e h2 h4
  have hmn := k.dis m n _ _ _ _ a e2 e5 e3 e6
  subst hmn
  exact ownPl_inj e2 nd e1 e4
theorem own_wb {os : List Op} {us : List (Option OD)} {ρ' : Env} (w : WbAt ρ os us ρ') {a : Addr} (h : OwnAt ρ' σ a) : OwnAt ρ σ a := by
  obtain ⟨i, t, o, e, q⟩ := h
  obtain ⟨p, h1, _⟩ := w.own i t o e
  exact ⟨i, t, p, h1, q⟩
theorem passed_own {vs : List V} {os : List Op} {bs : List B} (rv : RpOps K T ρ σ G H vs os) (e : argsB ρ os = some bs) {a : Addr} (h : Passed vs bs a) : OwnAt ρ σ a := by
  obtain ⟨j, t, o, h1, h2⟩ := h
  obtain ⟨i, e1, e2, e3⟩ := own_arg rv e h1 h2
  exact ⟨i, t, o, e2, e3⟩
/-- the caller's frame behind the call -/
theorem back_call (k : Ok K T τ ρ σ G H) {vs : List V} {os : List Op} {bs : List B} {us : List (Option OD)} (rv : RpOps K T ρ σ G H vs os) (e : argsB ρ os = some bs) (nd : (ownPl ρ os).Nodup) (r : Ret K T G H vs bs us G' H') :
    Ok K T τ (wb ρ os us) σ G' H' ∧ Fr ρ σ G H (wb ρ os us) σ G' H' := by
  have w := wb_at os us ρ
  refine ⟨⟨r.sub, w.len.trans k.len, fun i d h => ?_, fun i t o h => ?_, fun i j t u o p a h1 h2 h3 h4 => ?_, r.tab⟩, ⟨r.gro, fun a o ha nt n => ?_, r.stay⟩⟩
  · obtain ⟨v, h1, h2⟩ := k.val i d (w.val i d h)
    exact ⟨v, h1, h2.mono r.gro⟩
  · obtain ⟨p, h1, h2⟩ := w.own i t o h
    obtain ⟨a, q1, q2, q3, q4⟩ := k.own i t p h1
    rcases h2 with ⟨rfl, h3⟩ | ⟨j, h2, h3⟩
    · have np : ¬ Passed vs bs a := fun ⟨j, t', o', z1, z2⟩ => by
        obtain ⟨m, e1, e2, e3⟩ := own_arg rv e z1 z2
        have hm := k.dis m i _ _ _ _ a e2 h1 e3 q1
        subst hm
        obtain ⟨o2, a2, z3, _⟩ := r.out j t' o' z1
        exact h3 j e1 _ z3
      obtain ⟨u, hu, nt⟩ := q3.thereN
      obtain ⟨z1, z2⟩ := r.keep a u hu nt np
      exact ⟨a, q1, z2.trans q2, q3.mono r.gro fun u' hu' _ => by rw [hu] at hu'; cases hu'; exact z1, q4⟩
    · obtain ⟨b, z1, z2⟩ := argsB_at e h2
      have hb : b = .own t p := by
        have z2 : ρ[i]?.join = some b := z2
        rw [h1] at z2
        cases z2; rfl
      subst hb
      obtain ⟨o2, a2, z3, z4, z5, z6⟩ := r.out j t p z1
      rw [h3] at z3; cases z3
      obtain ⟨v, z7, z8⟩ := rv.get h2
      rw [z4] at z7; cases z7
      have z9 : σ[i]? = some (some (V.ref a2)) := z8
      rw [q1] at z9; cases z9
      exact ⟨a, q1, z5, z6, q4⟩
  · obtain ⟨p1, z1, _⟩ := w.own i t o h1
    obtain ⟨p2, z2, _⟩ := w.own j u p h2
    exact k.dis i j _ _ _ _ a z1 z2 h3 h4
  · obtain ⟨z1, z2⟩ := r.keep a o ha nt fun z => n (passed_own rv e z)
    exact ⟨z1, z2, fun z => n (own_wb w z)⟩
end
/-- what the caller may let out of the callee -/
structure Psx (X : Cx) (W : WX) (E : XK) : Prop where
  pass : Passes (L2.CX X.prog X.w) X E
  to : ∀ c d σ H, W c d σ H → E c d H
theorem psx0 {X : Cx} : Psx X W0 E0 := ⟨passL, fun _ _ _ _ h => h⟩
theorem psx_of {X : Cx} {E : XK} (tk : Takes X (WB E)) : Psx X (WB E) E := ⟨passes_call tk fun _ _ _ _ h => h, fun _ _ _ _ h => h⟩
section
variable {X : Cx} {T : Tab} {W : WX} {pos : Pos}
theorem tCall_of {K : PySem.W.Frag} {n : Nat} {F : CF} {a : DAn} {E : XK} (hE : ∀ c d σ H, W c d σ H → E c d H) (hn : ∀ bs, bs.length ≠ n → F bs = .bad) (σ : L2.St) (H : Hp) (Q : VK) (q : tE K T W (dCall F a) σ H Q) : tCall (spOf K T n F) [] E (tA K T W a) σ H Q := by
  obtain ⟨τ, ρ, G, k, q⟩ := q
  refine ⟨τ, ρ, G, k, (Out.bind q).imp fun ρ1 ops G1 H1 k1 fr1 q1 vs rvs fvs => ?_⟩
  dsimp only at q1
  show spOf K T n F (vs ++ []) H1 Q E
  rw [List.append_nil]
  split at q1
  · rename_i bs h1
    by_cases nd : nodupB (ownPl ρ1 ops) = true
    · rw [if_pos nd] at q1
      have nd := nodupB_of nd
      have ha := args_at k1 rvs h1
      have hl : vs.length = n := by
        rw [ha.len]
        by_cases z : bs.length = n
        · exact z
        · rw [hn bs z] at q1; exact q1.elim
      refine ⟨hl, G1, bs, k1.tab, k1.sub, ha, dist_args k1 rvs h1 nd, ?_⟩
      cases e : F bs with
      | bad => rw [e] at q1; exact q1
      | ok outs d =>
        rw [e] at q1
        intro v G2 H2 r rz
        obtain ⟨k2, f2⟩ := back_call k1 rvs h1 nd r
        exact q1 G2 H2 k2 f2 v rz
      | ex outs x =>
        rw [e] at q1
        intro cls dx G2 H2 r xo
        obtain ⟨k2, f2⟩ := back_call k1 rvs h1 nd r
        exact hE _ _ _ _ (q1 cls dx G2 H2 k2 f2 xo)
    · rw [if_neg nd] at q1; exact q1.elim
  · exact q1.elim
/-- a def that may be called here -/
structure FOk (X : Cx) (T : Tab) (E : XK) (f : Addr) (n : Nat) (F : CF) : Prop where
  ex : ∃ (fd : FuncData) (ps : List Str) (k : Nat), FnOk X.prog X.w X.K X.mg X.base (L2.CX X.prog X.w) k f fd ps (spOf X.K T n F) ∧ Room k X.A ∧ Binds X.K fd ps [] ∧ PySem.W.keepIn X.K (.ref f) = true
  bad : ∀ bs, bs.length ≠ n → F bs = .bad
theorem cfOf_bad {m n : Nat} {d : DSn} (bs : List B) (h : bs.length ≠ n) : cfOf m n d bs = .bad := by unfold cfOf; rw [if_neg h]
theorem de_call {x : Str} {f : Addr} {n : Nat} {F : CF} {E : XK} {e : Expr} {es : List Expr} {a : DAn} {p : Pos} (px : Psx X W E) (O : FOk X T E f n F) (hm : X.mg x = some (.ref f)) (ha : DA X T W (e :: es) a) (hg : Gl X x := by rfl) (hdb : (x == ("__debug__" : Str)) = false := by decide)
    (he : starEach (e :: es) X.env = (false, eval e X.env) :: starEach es X.env := by rfl) (hpl : (backTo pos (starEach es X.env)).any (·.1) = false := by rfl) : DE X T W (.Call (.Name x p) (e :: es) [] pos) (dCall F a) := by
  obtain ⟨fd, ps, k, Fn, hr, hb, hk⟩ := O.ex
  exact PE.imp (pe_call Fn hr hg hm hk hb .nil px.pass ha hdb he hpl) fun σ H Q q => tCall_of px.to O.bad σ H Q q
end
end Zd
end
section
/-! Zd 11: methods, makings, fields stored. -/
namespace Zd
open PySem PySem.Spec PyProof.Rows L2
set_option autoImplicit false
section
variable {X : Cx} {T : Tab} {W : WX} {pos apos : Pos}
def dMeth (M : Nat → Option CF) (o : DOn) (a : DAn) : DEn := fun ρ => (o ρ).bind fun p => match res p.1 p.2 with
  | some (.ins c _) => (match M c with
    | some F => dCall F (fun ρ => (a ρ).bind fun q => .ok (q.1, p.2 :: q.2)) p.1
    | none => .bad)
  | _ => .bad
theorem lookup_no {m : Str} {fs : List (Str × V)} {L : List Str} {n : Nat} (e : fs.map (·.1) = L.take n) (h : m ∉ L) : fs.lookup m = none := by
  cases q : fs.lookup m with
  | none => rfl
  | some v =>
    have h1 : (m, v) ∈ fs := PySem.mem_of_lookup q
    have h2 : m ∈ fs.map (·.1) := List.mem_map.mpr ⟨_, h1, rfl⟩
    rw [e] at h2
    exact absurd (List.mem_of_mem_take h2) h
/-- the frame is as it was, new things apart -/
theorem dCall_sp {K : PySem.W.Frag} {n : Nat} {F : CF} {E : XK} {τ : Nat → Addr} {ρ1 : Env} {σ : L2.St} {G1 H1 : Hp} {Q : VK} (hE : ∀ c d σ H, W c d σ H → E c d H) (hn : ∀ bs, bs.length ≠ n → F bs = .bad) {ops : List Op} {vs : List V} (k1 : Ok K T τ ρ1 σ G1 H1) (rvs : RpOps K T ρ1 σ G1 H1 vs ops)
    (q1 : Out K T W τ ρ1 σ G1 H1 (match argsB ρ1 ops with
      | some bs => if nodupB (ownPl ρ1 ops) = true then match F bs with
        | .ok outs d => .ok (wb ρ1 ops outs, d)
        | .ex outs x => .ex (wb ρ1 ops outs) x
        | .bad => .bad
        else .bad
      | none => .bad) fun _ r G' H' => ∀ v, Rz K T G' v r → Q v H') : spOf K T n F vs H1 Q E := by
  split at q1
  · rename_i bs h1
    by_cases nd : nodupB (ownPl ρ1 ops) = true
    · rw [if_pos nd] at q1
      have nd := nodupB_of nd
      have ha := args_at k1 rvs h1
      have hl : vs.length = n := by
        rw [ha.len]
        by_cases z : bs.length = n
        · exact z
        · rw [hn bs z] at q1; exact q1.elim
      refine ⟨hl, G1, bs, k1.tab, k1.sub, ha, dist_args k1 rvs h1 nd, ?_⟩
      cases e : F bs with
      | bad => rw [e] at q1; exact q1
      | ok outs d =>
        rw [e] at q1
        intro v G2 H2 r rz
        obtain ⟨k2, f2⟩ := back_call k1 rvs h1 nd r
        exact q1 G2 H2 k2 f2 v rz
      | ex outs x =>
        rw [e] at q1
        intro cls dx G2 H2 r xo
        obtain ⟨k2, f2⟩ := back_call k1 rvs h1 nd r
        exact hE _ _ _ _ (q1 cls dx G2 H2 k2 f2 xo)
    · rw [if_neg nd] at q1; exact q1.elim
  · exact q1.elim
theorem tMeth_of {K : PySem.W.Frag} {E : XK} {m : Str} {M : Nat → Option CF} {oo : DOn} {da : DAn} (hE : ∀ c d σ H, W c d σ H → E c d H) (nn : Nat → Nat) (hM : ∀ c F, M c = some F → m ∉ T.lay c ∧ ∀ bs, bs.length ≠ nn c → F bs = .bad) (h0 : ∃ c F, M c = some F) (σ : L2.St) (H : Hp) (Q : VK)
    (q : tE K T W (dMeth M oo da) σ H Q) : ∃ (c : Nat) (F : CF), M c = some F ∧ tMeth (T.cls c) m (spOf K T (nn c) F) [] E (tO K T W oo) (tA K T W da) σ H Q := by
  obtain ⟨τ, ρ, G, k, q⟩ := q
  cases eo : oo ρ with
  | bad => unfold dMeth at q; rw [eo] at q; exact q.elim
  | ex ρ2 x =>
    obtain ⟨c, F, hF⟩ := h0
    refine ⟨c, F, hF, τ, ρ, G, k, ?_⟩
    unfold dMeth at q
    rw [eo] at q ⊢
    exact q
  | ok p =>
    obtain ⟨ρ1, op⟩ := p
    have q0 := q
    unfold dMeth at q0
    rw [eo] at q0
    dsimp only [R.bind_ok] at q0
    split at q0
    · rename_i c xs h1
      cases hF : M c with
      | none => rw [hF] at q0; exact q0.elim
      | some F =>
        rw [hF] at q0
        dsimp only at q0
        obtain ⟨hm, hn⟩ := hM c F hF
        refine ⟨c, F, hF, τ, ρ, G, k, ?_⟩
        rw [eo]
        intro G1 H1 k1 fr1 x rv fv
        dsimp only at k1 fr1 rv
        obtain ⟨a, dx, fs, e1, e2, e3, e4⟩ := Rb.ins k1.sub (k1.resolve rv h1)
        refine ⟨a, dx, fs, e1, e2, lookup_no e3 hm, τ, ρ1, G1, k1, ?_⟩
        have q3 : Out K T W τ ρ1 σ G1 H1 ((da ρ1).bind fun q => .ok (q.1, op :: q.2)) _ := Out.bind (Out.shift fr1 q0)
        refine (Out.bind q3).imp fun ρ2 ops G2 H2 k2 fr2 q4 vs rvs fvs => ?_
        show spOf K T (nn c) F (x :: (vs ++ [])) H2 Q E
        rw [List.append_nil]
        have q5 := q4 G2 H2 k2 Fr.refl
        by_cases hfr : ∃ od, op = .fr od
        · obtain ⟨od, rfl⟩ := hfr
          exact (show False from q5).elim
        · exact dCall_sp (ops := op :: ops) hE hn k2 ⟨rv.fr fr2, rvs, fun od e => absurd ⟨od, e⟩ hfr⟩ q5
    · exact q0.elim
theorem aNil_of {K : PySem.W.Frag} {σ : L2.St} {H : Hp} {R : List V → Hp → Prop} (q : tA K T W aNil σ H R) : tNil σ H R := by
  obtain ⟨τ, ρ, G, k, q⟩ := q
  exact q G H k Fr.refl [] True.intro (fun j od e => by simp at e)
/-- the methods named m, by the class -/
structure MOk (X : Cx) (T : Tab) (m : Str) (nn : Nat → Nat) (M : Nat → Option CF) : Prop where
  all : ∀ c F, M c = some F → Cls X.K (T.cls c) ∧ m ∉ T.lay c ∧ (∀ bs, bs.length ≠ nn c → F bs = .bad) ∧
    ∃ (f : Addr) (fd : FuncData) (ps : List Str) (k : Nat), Meth X.K (T.cls c) m f ∧ FnOk X.prog X.w X.K X.mg X.base (L2.CX X.prog X.w) k f fd ps (spOf X.K T (nn c) F) ∧ Room k X.A ∧ Binds X.K fd ps []
  some : ∃ c F, M c = .some F
theorem de_meth {m : Str} {M : Nat → Option CF} {nn : Nat → Nat} {E : XK} {o e : Expr} {es : List Expr} {oo : DOn} {da : DAn} {pl : Sem Bool} (px : Psx X W E) (O : MOk X T m nn M) (ho : DO X T W o oo) (ha : DA X T W (e :: es) da)
    (hst : starEach (e :: es) X.env = (false, eval e X.env) :: starEach es X.env := by rfl) (hpl : (backTo pos (starEach es X.env)).any (·.1) = false := by rfl)
    (ht : eval (.Call (.Attribute o m apos) (e :: es) [] pos) X.env = (do
      let ov ← eval o X.env
      standAt apos.atName
      let (f, first) ← holding [ov] (getMethod ov m pl)
      callWith pos f first (backTo pos (starEach (e :: es) X.env)) (backToKw pos (keywordEach [] X.env))) := by rfl) :
    DE X T W (.Call (.Attribute o m apos) (e :: es) [] pos) (dMeth M oo da) := by
  refine PE.imp (PE.ors (ι := { p : Nat × CF // M p.1 = some p.2 }) (t := fun i => tMeth (T.cls i.1.1) m (spOf X.K T (nn i.1.1) i.1.2) [] E (tO X.K T W oo) (tA X.K T W da)) fun i => ?_) fun σ H Q q => ?_
  · obtain ⟨cl, hm, hn, f, fd, ps, k, mt, Fn, hr, hb⟩ := O.all _ _ i.2
    exact pe_meth ho cl mt Fn hr hb .nil px.pass ha hst hpl ht
  · obtain ⟨c, F, hF, q⟩ := tMeth_of px.to nn (fun c F h => ⟨(O.all c F h).2.1, (O.all c F h).2.2.1⟩) O.some σ H Q q
    exact ⟨⟨(c, F), hF⟩, q⟩
theorem de_meth0 {m : Str} {M : Nat → Option CF} {nn : Nat → Nat} {E : XK} {o : Expr} {oo : DOn} {pl : Sem Bool} (px : Psx X W E) (O : MOk X T m nn M) (ho : DO X T W o oo)
    (ht : eval (.Call (.Attribute o m apos) [] [] pos) X.env = (do
      let ov ← eval o X.env
      standAt apos.atName
      let (f, first) ← holding [ov] (getMethod ov m pl)
      callWith pos f first (backTo pos (starEach [] X.env)) (backToKw pos (keywordEach [] X.env))) := by rfl) :
    DE X T W (.Call (.Attribute o m apos) [] [] pos) (dMeth M oo aNil) := by
  refine PE.imp (PE.ors (ι := { p : Nat × CF // M p.1 = some p.2 }) (t := fun i => tMeth (T.cls i.1.1) m (spOf X.K T (nn i.1.1) i.1.2) [] E (tO X.K T W oo) tNil) fun i => ?_) fun σ H Q q => ?_
  · obtain ⟨cl, hm, hn, f, fd, ps, k, mt, Fn, hr, hb⟩ := O.all _ _ i.2
    exact pe_meth0 ho cl mt Fn hr hb .nil px.pass ht
  · obtain ⟨c, F, hF, q⟩ := tMeth_of px.to nn (fun c F h => ⟨(O.all c F h).2.1, (O.all c F h).2.2.1⟩) O.some σ H Q q
    refine ⟨⟨(c, F), hF⟩, ?_⟩
    obtain ⟨τ, ρ, G, k, q⟩ := q
    refine ⟨τ, ρ, G, k, q.imp fun ρ1 op G1 H1 k1 f1 q1 v rv fv => ?_⟩
    obtain ⟨a, dx, fs, e1, e2, e3, q2⟩ := q1 v rv fv
    exact ⟨a, dx, fs, e1, e2, e3, aNil_of q2⟩

/-! ### a class is called -/
/-- the new instance's attributes: none, or what __init__ has stored -/
def oMake (c : Nat) (F : CF) (a : DAn) : DOn := fun ρ => (a ρ).bind fun p => match argsB p.1 p.2 with
  | some bs => if nodupB (ownPl p.1 p.2) = true then match F (.own 0 (.ins c []) :: bs) with
    | .ok (some o :: outs) .non => .ok (wb p.1 p.2 outs, .fr o)
    | .ex (_ :: outs) x => .ex (wb p.1 p.2 outs) x
    | _ => .bad
    else .bad
  | none => .bad
theorem ArgsAt.mono {K : PySem.W.Frag} {G H H' : Hp} (s : Same H H') : ∀ {vs : List V} {bs : List B}, ArgsAt K T G H vs bs → ArgsAt K T G H' vs bs
  | [], [], h => h
  | v :: vs, b :: bs, h => by
    refine ⟨?_, ArgsAt.mono s h.2⟩
    cases b with
    | val d => exact h.1
    | own t o =>
      obtain ⟨a, e, g, r⟩ := h.1
      exact ⟨a, e, g, r.mono (Same.refl _) fun u hu _ => s _ _ hu⟩
  | [], _ :: _, h => h.elim
  | _ :: _, [], h => h.elim
theorem tMake_of {K : PySem.W.Frag} {E : XK} {c n : Nat} {F : CF} {a : DAn} (hE : ∀ c d σ H, W c d σ H → E c d H) (hn : ∀ bs, bs.length ≠ n → F bs = .bad) (σ : L2.St) (H : Hp) (Q : VK) (q : tO K T W (oMake c F a) σ H Q) : tMake (T.cls c) (spOf K T n F) [] E (tA K T W a) σ H Q := by
  obtain ⟨τ, ρ, G, k, q⟩ := q
  refine ⟨τ, ρ, G, k, (Out.bind0 q).imp fun ρ1 ops G1 H1 k1 fr1 q1 vs rvs fvs x dx hx hdx hne => ?_⟩
  dsimp only at q1
  rw [List.append_nil]
  split at q1
  · rename_i bs h1
    by_cases nd : nodupB (ownPl ρ1 ops) = true
    · rw [if_pos nd] at q1
      have nd := nodupB_of nd
      have ha := args_at k1 rvs h1
      have hd := dist_args k1 rvs h1 nd
      have s1 : Same H1 (upd H1 dx (.own x)) := Same.upd hdx
      have hx2 : upd H1 dx (HO.own x) x = none := by rw [upd_ne (fun e => hne e.symm)]; exact hx
      have s2 : Same H1 (upd (upd H1 dx (.own x)) x (.ins (T.cls c) dx [])) := s1.trans (Same.upd hx2)
      have gx : G1 x = none := k1.sub.free hx
      have hl : (V.ref x :: vs).length = n := by
        have e : (V.ref x :: vs).length = (B.own 0 (.ins c []) :: bs).length := by rw [List.length_cons, List.length_cons, ha.len]
        rw [e]
        by_cases z : (B.own 0 (.ins c []) :: bs).length = n
        · exact z
        · rw [hn _ z] at q1; exact q1.elim
      have noP : ∀ (j t : Nat) (o : OD), bs[j]? = some (.own t o) → vs[j]? ≠ some (V.ref x) := fun j t o hj hv => by
        obtain ⟨b, z1, z2, z3⟩ := ha.own hj
        rw [hv] at z1; cases z1
        obtain ⟨u, hu⟩ := z3.there
        rw [hx] at hu; cases hu
      have hd2 : Dist (V.ref x :: vs) (B.own 0 (.ins c []) :: bs) := fun i j t u o p b h1 h2 h3 h4 => by
        cases i with
        | zero =>
          cases j with
          | zero => rfl
          | succ j =>
            simp at h3; subst h3
            exact absurd (by simpa using h4) (noP j u p (by simpa using h2))
        | succ i =>
          cases j with
          | zero =>
            simp at h4; subst h4
            exact absurd (by simpa using h3) (noP i t o (by simpa using h1))
          | succ j => rw [hd i j t u o p b (by simpa using h1) (by simpa using h2) (by simpa using h3) (by simpa using h4)]
      have back : ∀ {outs : List (Option OD)} {u : Option OD} {G2 H2 : Hp}, Ret K T G1 (upd (upd H1 dx (.own x)) x (.ins (T.cls c) dx [])) (V.ref x :: vs) (B.own 0 (.ins c []) :: bs) (u :: outs) G2 H2 → Ret K T G1 H1 vs bs outs G2 H2 := fun {outs u G2 H2} r =>
        ⟨r.sub, r.gro, fun b o hb nt np => r.keep b o (s2 _ _ hb) nt fun ⟨j, t, o', z1, z2⟩ => by
          cases j with
          | zero => simp at z2; subst z2; rw [hx] at hb; cases hb
          | succ j => exact np ⟨j, t, o', by simpa using z1, by simpa using z2⟩, r.tab, fun b o hb => r.stay b o (s2 _ _ hb), fun j t o hj => by
          obtain ⟨o', b, z1, z2, z3, z4⟩ := r.out (j + 1) t o (by simpa using hj)
          exact ⟨o', b, by simpa using z1, by simpa using z2, z3, z4⟩⟩
      refine ⟨hl, G1, B.own 0 (.ins c []) :: bs, k1.tab.ext s2, k1.sub.trans s2, ⟨⟨x, rfl, gx, dx, [], upd_same, by simp, by rw [List.map_nil]; exact RzL.nil⟩, ha.mono s2⟩, hd2, ?_⟩
      cases e : F (B.own 0 (.ins c []) :: bs) with
      | bad => rw [e] at q1; exact q1
      | ok outs d =>
        rw [e] at q1
        cases outs with
        | nil => exact q1.elim
        | cons u outs =>
          cases u with
          | none => exact q1.elim
          | some o =>
            cases d with
            | non =>
              intro v G2 H2 r rz
              rw [Rz] at rz
              refine ⟨rz, ?_⟩
              obtain ⟨k2, f2⟩ := back_call k1 rvs h1 nd (back r)
              obtain ⟨o', b, z1, z2, z3, z4⟩ := r.out 0 0 _ rfl
              simp at z1 z2
              subst z1 z2
              exact q1 G2 H2 k2 (fr1.trans f2) _ ⟨x, rfl, z3, z4, fun z => by
                obtain ⟨u, hu⟩ := own_there k1 (own_wb (wb_at ops outs ρ1) z)
                rw [hx] at hu; cases hu⟩ fun od e => ⟨x, rfl, fr1.free hx⟩
            | _ => exact q1.elim
      | ex outs y =>
        rw [e] at q1
        cases outs with
        | nil => exact q1.elim
        | cons u outs =>
          intro cls dx' G2 H2 r xo
          obtain ⟨k2, f2⟩ := back_call k1 rvs h1 nd (back r)
          exact hE _ _ _ _ (q1 cls dx' G2 H2 k2 (fr1.trans f2) xo)
    · rw [if_neg nd] at q1; exact q1.elim
  · exact q1.elim
structure KOk (X : Cx) (T : Tab) (c : Nat) (n : Nat) (F : CF) : Prop where
  ex : ∃ (f : Addr) (fd : FuncData) (ps : List Str) (k : Nat), Mk X.K (T.cls c) f ∧ FnOk X.prog X.w X.K X.mg X.base (L2.CX X.prog X.w) k f fd ps (spOf X.K T n F) ∧ Room (k + 1) X.A ∧ Binds X.K fd ps []
  bad : ∀ bs, bs.length ≠ n → F bs = .bad
theorem do_make {x : Str} {c n : Nat} {F : CF} {E : XK} {e : Expr} {es : List Expr} {a : DAn} {p : Pos} (px : Psx X W E) (O : KOk X T c n F) (hm : X.mg x = some (.ref (T.cls c))) (ha : DA X T W (e :: es) a) (hg : Gl X x := by rfl) (hdb : (x == ("__debug__" : Str)) = false := by decide)
    (he : starEach (e :: es) X.env = (false, eval e X.env) :: starEach es X.env := by rfl) (hpl : (backTo pos (starEach es X.env)).any (·.1) = false := by rfl) : DO X T W (.Call (.Name x p) (e :: es) [] pos) (oMake c F a) := by
  obtain ⟨f, fd, ps, k, M, Fn, hr, hb⟩ := O.ex
  exact PE.imp (pe_make M Fn hr hg hm hb .nil px.pass ha hdb he hpl) fun σ H Q q => tMake_of px.to O.bad σ H Q q
def oMake0 (c : Nat) : DOn := fun ρ => .ok (ρ, .fr (.ins c []))
/-! ### o.f = e -/
def dSetFld (i : Nat) (fp : Nat → Option Nat) (d : DEn) : DSn := fun ρ => (d ρ).bind fun p => match p.1[i]? with
  | some (some (.own t (.ins c xs))) => if fp c = some xs.length ∧ xs.length < 900 then .ok (p.1.set i (some (.own t (.ins c (xs ++ [p.2])))), .nx) else .bad
  | _ => .bad
theorem putF_new {f : Str} {v : V} : ∀ {fs : List (Str × V)}, f ∉ fs.map (·.1) → putF f v fs = fs ++ [(f, v)]
  | [], _ => rfl
  | (g, x) :: r, h => by
    rw [List.map_cons, List.mem_cons, not_or] at h
    unfold putF
    rw [if_neg (fun e => h.1 e.symm), putF_new h.2]
    rfl
theorem ds_setFld {i : Nat} {x f : Str} {e : Expr} {fp : Nat → Option Nat} {d : DEn} {px pa : Pos} (hf : FldOk X.K T f fp) (ho : PE X (.Name x px) (tVar i)) (h : DE X T W e d) (hs : swapsWith e (some (.Attribute (.Name x px) f pa)) pos.line X.env = pure false := by rfl) : DS X T W (.Assign [.Attribute (.Name x px) f pa] e pos) (dSetFld i fp d) := by
  refine PS.imp (ps_fld ho h hs) fun D σ H q => ?_
  obtain ⟨τ, ρ, G, k, q⟩ := q
  refine ⟨τ, ρ, G, k, (OutS.bindE q).imp fun ρ1 r G1 H1 k1 fr1 q1 v rv => ?_⟩
  dsimp only at q1
  split at q1
  · rename_i t c xs h1
    obtain ⟨a, e1, g, ⟨dx, fs, e2, e3, e4⟩, ht⟩ := k1.own i t _ h1
    by_cases hc : fp c = some xs.length ∧ xs.length < 900
    · rw [if_pos hc] at q1
      obtain ⟨f1, f2, f3, f4⟩ := hf c _ hc.1
      have hl : fs.length = xs.length := by
        have := e4.len
        rw [List.length_map] at this
        exact this
      have hlt := (List.getElem?_eq_some_iff.mp f3).1
      have hnew : f ∉ fs.map (·.1) := by
        rw [e3]
        intro hm
        obtain ⟨j, hj⟩ := List.mem_iff_getElem?.mp hm
        have hj2 : j < xs.length := by
          have := (List.getElem?_eq_some_iff.mp hj).1
          rw [List.length_take] at this; omega
        rw [List.getElem?_take_of_lt hj2] at hj
        have := (List.getElem?_inj (by omega) f4).mp (hj.trans f3.symm)
        omega
      refine ⟨_, e1, a, T.cls c, dx, fs, rfl, e2, f1, f2, by omega, ?_⟩
      rw [putF_new hnew]
      obtain ⟨k3, fr3⟩ := k1.updOwn (o' := .ins c (xs ++ [r])) (u := .ins (T.cls c) dx (fs ++ [(f, v)])) h1 e1 g ht ⟨dx, _, upd_same, by
        rw [List.map_append, e3, List.length_append]
        have : (T.lay c).take (xs.length + [r].length) = (T.lay c).take xs.length ++ [f] := by
          rw [List.length_singleton, List.take_add_one, f3]
          rfl
        rw [this]
        rfl, by rw [List.map_append]; exact e4.append (RzL.cons rv RzL.nil)⟩
      exact q1 σ G1 _ k3 (fr1.trans fr3)
    · rw [if_neg hc] at q1; exact q1.elim
  · exact q1.elim
end
end Zd
end
section
/-! Zd 12: a class without __init__ is called; truth by an own __bool__. -/
namespace Zd
open PySem PySem.Spec PyProof.Rows L2
set_option autoImplicit false
/-- C(), no __init__ -/
structure Mk00 (K : PySem.W.Frag) (C : Addr) : Prop where
  makes : PySem.W.makesIn K C = true
  init : PySem.W.findIn K (.ref C) "__init__" = some (some (.builtin "object.__init__"))
  top : PySem.W.mroIn K C (.type "object") = some true
  kp : PySem.W.keepIn K (.ref C) = true
section
variable {X : Cx} {T : Tab} {W : WX} {pos : Pos}
theorem run_make0 {C : Addr} {pins : List (Addr × Obj)} {σ : L2.St} {H : Hp} {s : Shared} {Q : VK} (M : Mk00 X.K C) (I : Inv X pins σ H s)
    (h : ∀ x dx, H x = none → H dx = none → dx ≠ x → Q (.ref x) (upd (upd H dx (.own x)) x (.ins C dx []))) : wpAny (model X.prog X.w) X.A (call (.ref C) []) (EP X pins σ Q) X.xe s := by
  have hq := h (s.heap.objs.size + 1) s.heap.objs.size (I.hok.fresh (Nat.le_succ _)) (I.hok.fresh (Nat.le_refl _)) (Nat.ne_of_lt (Nat.lt_succ_self _))
  have I2 := Inv.made (C := C) I
  refine wpAny_call (make_map0 I.kIn M.makes M.init (fun self => PySem.W.Looks.of_pure (PySem.W.oi_bind _)) ?_)
  have hx : ((s.heap.push PySem.W.emptyDict).push (PySem.W.instObj C s.heap.objs.size)).get? (s.heap.objs.size + 1) = some (PySem.W.instObj C s.heap.objs.size) := by
    have := Heap.get?_push_size (s.heap.push PySem.W.emptyDict) (o := PySem.W.instObj C s.heap.objs.size) rfl
    rwa [Heap.size_push] at this
  have t1 : PySem.W.Looks (model X.prog X.w) ((s.heap.push PySem.W.emptyDict).push (PySem.W.instObj C s.heap.objs.size)) (typeOf (.ref (s.heap.objs.size + 1))) (.ref C) := NwA.type_at hx rfl
  have t2 : PySem.W.Looks (model X.prog X.w) ((s.heap.push PySem.W.emptyDict).push (PySem.W.instObj C s.heap.objs.size)) (isInstance (.ref (s.heap.objs.size + 1)) (.type "object")) true := t1.andThen (PySem.W.looks_mroIn I2.kIn M.top)
  refine codeAny_call_builtin PySem.W.oi_plain PySem.W.entry_oi (@PySem.W.check_slot (model X.prog X.w) _ _ _ "object.__init__" "object" "__init__" (.ref (s.heap.objs.size + 1)) [] [] _ PySem.W.oi_kind PySem.W.oi_split t2 (NwA.oi_args_any _ [] []) ?_)
  rw [PySem.W.oi_run]
  exact wpAny_pure (And.intro rfl ⟨V.ref (s.heap.objs.size + 1), _, I2, rfl, hq⟩)
theorem pe_make00 {C : Addr} {x : Str} {p : Pos} (M : Mk00 X.K C) (hm : X.mg x = some (.ref C)) (hg : Gl X x) (hdb : (x == ("__debug__" : Str)) = false) :
    PE X (.Call (.Name x p) [] [] pos) (fun _ H Q => ∀ x dx, H x = none → H dx = none → dx ≠ x → Q (.ref x) (upd (upd H dx (.own x)) x (.ins C dx []))) := by
  refine ⟨fun pins s σ H Q I h => ?_⟩
  refine wpAny_Call_Name_kw (ld_glob I hg hm ?_ hdb)
  exact PySem.W.callWith_K0 I.kIn M.kp (run_make0 M I h)
theorem do_make0 {c : Nat} {x : Str} {p : Pos} (M : Mk00 X.K (T.cls c)) (hm : X.mg x = some (.ref (T.cls c))) (hg : Gl X x := by rfl) (hdb : (x == ("__debug__" : Str)) = false := by decide) : DO X T W (.Call (.Name x p) [] [] pos) (oMake0 c) := by
  refine PE.imp (pe_make00 M hm hg hdb) fun σ H Q q x dx hx hdx hne => ?_
  obtain ⟨τ, ρ, G, k, q⟩ := q
  have hx2 : upd H dx (HO.own x) x = none := by rw [upd_ne (fun e => hne e.symm)]; exact hx
  have n1 := New.loose (T := T) (o := HO.own x) k.sub hdx
  have n2 := New.loose (T := T) (o := HO.ins (T.cls c) dx []) n1.sub hx2
  have n := n1.trans n2
  exact q G _ (k.new n) n.fr _ ⟨x, rfl, k.sub.free hx, ⟨dx, [], upd_same, by simp, by rw [List.map_nil]; exact RzL.nil⟩, fun z => by
    obtain ⟨u, hu⟩ := own_there k z
    rw [hx] at hu; cases hu⟩ fun od e => ⟨x, rfl, hx⟩
/-! ### truth -/
/-- an own __bool__ -/
structure BOk (X : Cx) (T : Tab) (A' : Around) (M : Nat → Option CF) : Prop where
  all : ∀ c F, M c = some F → (∀ bs, bs.length ≠ 1 → F bs = .bad) ∧ ∃ (f : Addr) (fd : FuncData) (ps : List Str) (k : Nat), PySem.W.findIn X.K (.ref (T.cls c)) "__bool__" = some (some (.ref f)) ∧ PySem.W.isFn X.K (.ref f) = true ∧
    FnOk X.prog X.w X.K X.mg X.base (L2.CX X.prog X.w) k f fd ps (spOf X.K T 1 F) ∧ Room k A' ∧ Binds X.K fd ps []
theorem truthy_at {A' : Around} {pins : List (Addr × Obj)} {σ : L2.St} {H : Hp} {s : Shared} {Q : Bool → Hp → Prop} {Ex : Value → Shared → Prop} {a dx C f : Addr} {fs : List (Str × V)} {fd : FuncData} {ps : List Str} {k : Nat} {F : CF} (I : Inv X pins σ H s) (e : H a = some (.ins C dx fs))
    (hs : PySem.W.findIn X.K (.ref C) "__bool__" = some (some (.ref f))) (hf : PySem.W.isFn X.K (.ref f) = true) (Fn : FnOk X.prog X.w X.K X.mg X.base (L2.CX X.prog X.w) k f fd ps (spOf X.K T 1 F)) (hr : Room k A') (he : Env0 X.prog X.w X.K X.mg X.base A' X.stack s H) (hb : Binds X.K fd ps [])
    (q : spOf X.K T 1 F [.ref a] H (fun v H' => ∃ b, v = .bl b ∧ Q b H') E0) : wpAny (model X.prog X.w) A' (truthy (.ref a)) (fun b s' => ∃ H', Inv X pins σ H' s' ∧ Q b H') Ex s := by
  obtain ⟨mA, O, _⟩ := ins_get I.hok e
  obtain ⟨od, J, _⟩ := O.look
  have hl : [Value.ref a].length = ps.length := by rw [← Fn.len _ _ _ _ q]; rfl
  have b := hb s [.ref a] I.kIn (by rw [List.append_nil]; exact hl)
  rw [List.append_nil] at b
  unfold truthy
  refine wpAny_bind (m := callSpecial? (.ref a) (Str.ofString "__bool__")) (PySem.W.special_fn I.kIn J hs (beq_iff_eq.mp hf) (wpAny_call (codeAny_mono (Fn.run A' X.stack s H ⟨[.ref a], []⟩ [.ref a] [.ref a] _ E0 hr he b (.cons rfl .nil) q) fun r s' hq => ?_)))
  cases r with
  | error e =>
    obtain ⟨_, _, _, _, _, _, _, _, _, _, _, _, z⟩ := (show L2.CX X.prog X.w X.stack H s E0 e s' from hq)
    exact z.elim
  | ok fl =>
    cases fl with
    | ret u =>
      obtain ⟨v, H', I3, rv, b, ev, q3⟩ := I.after hq
      subst ev
      cases rv
      exact wpAny_pure ⟨H', I3, q3⟩
    | next => exact False.elim hq
    | brk => exact False.elim hq
    | cont => exact False.elim hq
def truD : D → Option Bool
  | .non => some false
  | .bl b => some b
  | .int i => some (i != 0)
  | .str s => if s.length ≤ 1000000 then some ((s.length : Int) != 0) else none
  | .tup ds => some (!ds.isEmpty)
  | .lst ds => some (!ds.isEmpty)
  | .frz ds => some (!ds.isEmpty)
  | .ins _ _ => none
  | .dct _ _ => none
def dTru (M : Nat → Option CF) (o : DOn) : DTn := fun ρ => (o ρ).bind fun p => match argB p.1 p.2 with
  | some (.val (.ins c xs)) => (match M c with
    | some F => (match F [.val (.ins c xs)] with
      | .ok _ (.bl b) => .ok (p.1, b)
      | _ => .bad)
    | none => .bad)
  | _ => (match (res p.1 p.2).bind truD with
    | some b => .ok (p.1, b)
    | none => .bad)
/-- a call of one value: the frame behind it -/
theorem back_val {K : PySem.W.Frag} {T : Tab} {τ : Nat → Addr} {ρ : Env} {σ : L2.St} {G H G' H' : Hp} {v : V} {op : Op} {d : D} {outs : List (Option OD)} (k : Ok K T τ ρ σ G H) (rv : RpOp K T ρ σ G H v op) (e : argB ρ op = some (.val d)) (r : Ret K T G H [v] [.val d] outs G' H') : Ok K T τ ρ σ G' H' ∧ Fr ρ σ G H ρ σ G' H' := by
  have ea : argsB ρ [op] = some [.val d] := by simp [argsB, e]
  have ew : wb ρ [op] ([] : List (Option OD)) = ρ := rfl
  have nd : (ownPl ρ [op]).Nodup := by
    unfold ownPl ownPl
    cases op with
    | pl i =>
      dsimp only
      split
      · exact List.nodup_cons.mpr ⟨by simp, List.nodup_nil⟩
      · exact List.nodup_nil
    | _ => exact List.nodup_nil
  have r' : Ret K T G H [v] [.val d] [] G' H' := ⟨r.sub, r.gro, r.keep, r.tab, r.stay, fun j t o h => by cases j <;> simp at h⟩
  have := back_call (us := []) k (vs := [v]) (os := [op]) (bs := [.val d]) ⟨rv, trivial, fun _ _ j _ z => by simp at z⟩ ea nd r'
  rwa [ew] at this
theorem argB_val {K : PySem.W.Frag} {τ : Nat → Addr} {ρ : Env} {σ : L2.St} {G H : Hp} (k : Ok K T τ ρ σ G H) {o : Op} {d : D} {v : V} (e : argB ρ o = some (.val d)) (r : RpOp K T ρ σ G H v o) : Rz K T G v d := by
  cases o with
  | v d' => cases e; exact r
  | fr o => cases e
  | pl i =>
    have e : ρ[i]?.join = some (B.val d) := e
    have hb : ρ[i]? = some (some (B.val d)) := by
      cases q : ρ[i]? with
      | none => rw [q] at e; cases e
      | some b => rw [q] at e; rw [show b = some (B.val d) from e]
    obtain ⟨v', q1, q2⟩ := k.val i d hb
    have r : σ[i]? = some (some v) := r
    rw [r] at q1; cases q1
    exact q2
theorem truD_of {K : PySem.W.Frag} {G H : Hp} {v : V} {d : D} {b : Bool} (s : Same G H) (r : Rb K T G H v d) (e : truD d = some b) : TruV K v H b := by
  cases d with
  | non => cases e; rw [r.non]; exact rfl
  | bl c => cases e; rw [r.bl]; exact rfl
  | int i => cases e; rw [r.int]; exact rfl
  | str z =>
    unfold truD at e
    dsimp only at e
    by_cases hz : z.length ≤ 1000000
    · rw [if_pos hz] at e; cases e
      rw [r.str]
      exact ⟨Nat.le_trans hz (by rw [sizeLine_eq]; decide), rfl⟩
    · rw [if_neg hz] at e; cases e
  | tup ds =>
    cases e
    obtain ⟨a, xs, rfl, h1, h2⟩ := Rb.tup s r
    exact .inr (.inl ⟨xs, Same.tup s h1.t, by cases xs <;> cases ds <;> first | rfl | (have := h2.len; simp at this)⟩)
  | lst ds =>
    cases e
    obtain ⟨a, xs, rfl, h1, h2⟩ := Rb.lst s r
    exact .inl ⟨xs, SqL.of h1, by cases xs <;> cases ds <;> first | rfl | (have := h2.len; simp at this)⟩
  | frz ds =>
    cases e
    obtain ⟨a, xs, rfl, h1, h2⟩ := Rb.frz s r
    exact .inl ⟨xs, h1, by cases xs <;> cases ds <;> first | rfl | (have := h2.len; simp at this)⟩
  | ins c ds => cases e
  | dct ks ds => cases e
/-- truth by T at A' (bool(..): deeper) -/
def tTru {X : Cx} (A' : Around) (M : Nat → Option CF) : V → Hp → (Bool → Hp → Prop) → Prop := fun x H Q => (∃ k, TruV X.K x H k ∧ Q k H) ∨
  ∃ (c : Nat) (F : CF) (a dx : Addr) (fs : List (Str × V)), M c = some F ∧ x = .ref a ∧ H a = some (.ins (T.cls c) dx fs) ∧ spOf X.K T 1 F [.ref a] H (fun v H' => ∃ b, v = .bl b ∧ Q b H') E0
theorem tTru_of {M : Nat → Option CF} {oo : DOn} {A' : Around} (σ : L2.St) (H : Hp) (Q : Bool → Hp → Prop) (q : tTn X.K T W (dTru M oo) σ H Q) : tO X.K T W oo σ H fun x H1 => tTru (X := X) (T := T) A' M x H1 Q := by
  obtain ⟨τ, ρ, G, k, q⟩ := q
  refine ⟨τ, ρ, G, k, (Out.bind q).imp fun ρ1 op G1 H1 k1 fr1 q1 x rv fv => ?_⟩
  dsimp only at q1
  split at q1
  · rename_i c xs h1
    have rz := argB_val k1 h1 rv
    have rz' := rz
    rw [Rz] at rz
    obtain ⟨a, dx, fs, rfl, e2, e3, e4⟩ := rz
    cases hF : M c with
    | none => rw [hF] at q1; exact q1.elim
    | some F =>
      rw [hF] at q1
      dsimp only at q1
      refine .inr ⟨c, F, a, dx, fs, hF, rfl, k1.sub _ _ e2, rfl, G1, [.val (.ins c xs)], k1.tab, k1.sub, ⟨rz', trivial⟩, fun i j t u o p a h => ?_, ?_⟩
      · cases i <;> simp at h
      · split at q1
        · rename_i outs b e
          rw [e]
          intro v G2 H2 r rz2
          rw [Rz] at rz2
          refine ⟨b, rz2, ?_⟩
          obtain ⟨k2, f2⟩ := back_val k1 rv h1 r
          exact q1 G2 H2 k2 f2
        · exact q1.elim
  · cases e : (res ρ1 op).bind truD with
    | none => rw [e] at q1; exact q1.elim
    | some b =>
      rw [e] at q1
      cases e2 : res ρ1 op with
      | none => rw [e2] at e; cases e
      | some d =>
        rw [e2] at e
        exact .inl ⟨b, truD_of k1.sub (k1.resolve rv e2) e, q1 G1 H1 k1 Fr.refl⟩
theorem truR_T {M : Nat → Option CF} (O : BOk X T X.A M) : TruR X (tTru (X := X) (T := T) X.A M) := by
  intro pins s σ H x v Q I rx h
  rcases h with ⟨k, h1, h2⟩ | ⟨c, F, a, dx, fs, hF, rfl, e, q⟩
  · exact tru_ok pins s σ H x v Q I rx ⟨k, h1, h2⟩
  · obtain ⟨_, f, fd, ps, k, hs, hf, Fn, hr, hb⟩ := O.all c F hF
    cases (show v = Value.ref a from rx)
    exact truthy_at I e hs hf Fn hr I.env0 hb q
theorem dt_tru {e : Expr} {oo : DOn} {M : Nat → Option CF} (O : BOk X T X.A M) (h : DO X T W e oo) (he : ∀ whole, isTrue e X.env whole = (do let v ← whole; standAt e.pos; holding [v] (truthy v)) := by intro _; rfl) : DT X T W e (dTru M oo) := by
  refine ⟨fun pins s σ H Q I q => ?_⟩
  exact isTrue_plain (thn (h.run pins s σ H _ I (tTru_of (A' := X.A) σ H Q q)) fun v s1 ⟨x, H1, I1, r1, q1⟩ => truR_T O pins s1 σ H1 x v Q I1 r1 q1) (he _)
/-! ### bool(x) -/
theorem bool_new_in {prog : Program} {w : World} (x : Value) : MeetsIn prog w (Builtin.«bool.__new__» ⟨[.type "bool", x], []⟩) (fun A R s => wpAny (model prog w) A.in1 (truthy x) (fun b s' => R (.ok (.ret (.bool b))) s') (fun e s' => R (.error e) s') s) :=
  .of_wp fun A R s h => by
    obtain ⟨hp, g, d, tk, os⟩ := s
    have f1 := F.conv_sub_bool
    repeat (any_goals (first | assumption | wp_step))
    exact wpAny_mono (t := truthy x) h (fun b s' hb => wpAny_pure ⟨_, rfl, hb⟩) fun _ _ z => z
def boolV (x : V) (k : Bool) : Prop := (∃ i, x = .int i ∧ k = (i != 0)) ∨ x = .bl k
def boolD : D → Option Bool
  | .bl b => some b
  | .int i => some (i != 0)
  | _ => none
def dBoolC (M : Nat → Option CF) (o : DOn) : DEn := fun ρ => (o ρ).bind fun p => match argB p.1 p.2 with
  | some (.val (.ins c xs)) => (match M c with
    | some F => (match F [.val (.ins c xs)] with
      | .ok _ (.bl b) => .ok (p.1, .bl b)
      | _ => .bad)
    | none => .bad)
  | _ => (match (res p.1 p.2).bind boolD with
    | some b => .ok (p.1, .bl b)
    | none => .bad)
def rBool (X : Cx) (T : Tab) (M : Nat → Option CF) : List V → Hp → VK → Prop := fun xs H Q => ∃ x, xs = [x] ∧ ((∃ k, boolV x k ∧ Q (.bl k) H) ∨
  ∃ (c : Nat) (F : CF) (a dx : Addr) (fs : List (Str × V)), M c = some F ∧ x = .ref a ∧ H a = some (.ins (T.cls c) dx fs) ∧ spOf X.K T 1 F [.ref a] H (fun v H' => ∃ b, v = .bl b ∧ Q (.bl b) H') E0)
theorem call_boolT {M : Nat → Option CF} (O : BOk X T X.A.in1.in1 M) : CallR X (.type "bool") (rBool X T M) := by
  intro pins s σ H xs us Q I r h
  obtain ⟨x, rfl, h⟩ := h
  rcases h with ⟨k, h1, h2⟩ | ⟨c, Fb, a, dx, fs, hF, rfl, e, q⟩
  · refine call_bool1 pins s σ H [x] us Q I r ?_
    rcases h1 with ⟨i, rfl, rfl⟩ | rfl
    · exact .inl ⟨i, rfl, h2⟩
    · exact .inr ⟨k, rfl, h2⟩
  · obtain ⟨u, rfl, rx⟩ := vals1 r
    refine callType_newIn PySem.F.called_bool PySem.F.newNe_bool (PySem.F.typeCall_bool_1 u) (PySem.F.newCall_bool_1 u) (fun obj => PySem.F.args_object_init_2 obj u) PySem.F.entry_bool_new (bool_new_in u) ?_
    have fin : ∀ (b : Bool) (s' : Shared), (∃ H', Inv X pins σ H' s' ∧ Q (.bl b) H') → wants (fun obj s₁ => s₁.TypeIs obj "bool" ∧ EP X pins σ Q obj s₁) X.xe (.ok (.ret (.bool b))) s' := fun b s' ⟨H', I', q⟩ => ⟨rfl, .bl b, H', I', rfl, q⟩
    obtain ⟨_, f, fd, ps, k, hs, hf, Fn, hr, hb⟩ := O.all c Fb hF
    cases (show u = Value.ref a from rx)
    exact wpAny_mono (truthy_at I e hs hf Fn hr I.env0.in1.in1 hb q) fin fun _ _ z => z
theorem de_bool {e : Expr} {oo : DOn} {M : Nat → Option CF} {p : Pos} (O : BOk X T X.A.in1.in1 M) (h : DO X T W e oo) (hm : X.mg "bool" = none) (hg : Gl X "bool" := by rfl)
    (he : starEach [e] X.env = (false, eval e X.env) :: starEach [] X.env := by rfl) (hpl : (backTo pos (starEach [] X.env)).any (·.1) = false := by rfl) : DE X T W (.Call (.Name "bool" p) [e] [] pos) (dBoolC M oo) := by
  refine PE.imp (pe_callTy (call_boolT O) hg hm PyProof.Rows.boot_bool (pa_cons h pa_nil he) (by decide) (by decide) he hpl) fun σ H Q q => ?_
  obtain ⟨τ, ρ, G, k, q⟩ := q
  refine ⟨τ, ρ, G, k, (Out.bind q).imp fun ρ1 op G1 H1 k1 fr1 q1 x rv fv => ⟨x, rfl, ?_⟩⟩
  dsimp only at q1
  split at q1
  · rename_i c xs h1
    have rz := argB_val k1 h1 rv
    have rz' := rz
    rw [Rz] at rz
    obtain ⟨a, dx, fs, rfl, e2, e3, e4⟩ := rz
    cases hF : M c with
    | none => rw [hF] at q1; exact q1.elim
    | some F =>
      rw [hF] at q1
      dsimp only at q1
      refine .inr ⟨c, F, a, dx, fs, hF, rfl, k1.sub _ _ e2, rfl, G1, [.val (.ins c xs)], k1.tab, k1.sub, ⟨rz', trivial⟩, fun i j t u o p a h => ?_, ?_⟩
      · cases i <;> simp at h
      · split at q1
        · rename_i outs b e
          rw [e]
          intro v G2 H2 r rz2
          rw [Rz] at rz2
          refine ⟨b, rz2, ?_⟩
          obtain ⟨k2, f2⟩ := back_val k1 rv h1 r
          exact q1 G2 H2 k2 f2 _ Rz.bl_
        · exact q1.elim
  · cases e : (res ρ1 op).bind boolD with
    | none => rw [e] at q1; exact q1.elim
    | some b =>
      rw [e] at q1
      cases e2 : res ρ1 op with
      | none => rw [e2] at e; cases e
      | some d =>
        rw [e2] at e
        have rb := k1.resolve rv e2
        refine .inl ⟨b, ?_, q1 G1 H1 k1 Fr.refl _ Rz.bl_⟩
        cases d <;> first | (cases e; first | exact .inl ⟨_, rb.int, rfl⟩ | exact .inr rb.bl) | cases e
end
end Zd
end
section
/-! Zd 13: built-ins. -/
namespace Zd
open PySem PySem.Spec PyProof.Rows L2
set_option autoImplicit false
section
variable {X : Cx} {T : Tab} {W : WX} {pos : Pos}
theorem CallR.or {f : Value} {r r' : List V → Hp → VK → Prop} (h : CallR X f r) (h' : CallR X f r') : CallR X f (fun xs H Q => r xs H Q ∨ r' xs H Q) := fun pins s σ H xs us Q I rv q => by
  rcases q with q | q
  · exact h pins s σ H xs us Q I rv q
  · exact h' pins s σ H xs us Q I rv q
theorem Rb.seq' {K : PySem.W.Frag} {G H : Hp} {v : V} {d : D} {ds : List D} (s : Same G H) (r : Rb K T G H v d) (e : isSq d = some ds) : ∃ a xs, v = V.ref a ∧ (SqL K H a xs ∨ SqT K H a xs) ∧ RzL K T G xs ds := by
  cases d with
  | tup es => cases e; obtain ⟨a, xs, rfl, h1, h2⟩ := Rb.tup s r; exact ⟨a, xs, rfl, .inr (Same.tup s h1.t), h2⟩
  | lst es => cases e; obtain ⟨a, xs, rfl, h1, h2⟩ := Rb.lst s r; exact ⟨a, xs, rfl, .inl (SqL.of h1), h2⟩
  | frz es => cases e; obtain ⟨a, xs, rfl, h1, h2⟩ := Rb.frz s r; exact ⟨a, xs, rfl, .inl h1, h2⟩
  | _ => cases e
/-! len -/
def lenD : List D → Option D
  | [d] => match d with
    | .str s => if s.length ≤ 1000000 then some (.int s.length) else none
    | d => (isSq d).map fun ds => .int ds.length
  | _ => none
def rLen2 (K : PySem.W.Frag) : List V → Hp → VK → Prop := fun xs H Q => (∃ p ys, xs = [.ref p] ∧ (SqL K H p ys ∨ SqT K H p ys) ∧ Q (.int ys.length) H) ∨ (∃ z, xs = [.str z] ∧ z.length ≤ sizeLine ∧ Q (.int z.length) H)
theorem call_len2 : CallR X (.builtin "len") (rLen2 X.K) := CallR.or call_len_seq call_len_str
theorem line_le {n : Nat} (h : n ≤ 1000000) : n ≤ sizeLine := by rw [sizeLine_eq]; omega
theorem snd_len {K : PySem.W.Frag} : SndL K T (rLen2 K) lenD := fun vs ds d G H Q s rb e q => by
  unfold lenD at e
  split at e
  · rename_i d0
    obtain ⟨v, rfl, r⟩ := rb.one
    split at e
    · rename_i z
      by_cases hz : z.length ≤ 1000000
      · rw [if_pos hz] at e; cases e
        exact .inr ⟨z, by rw [r.str], line_le hz, q _ G H (New.refl s) Rz.int_⟩
      · rw [if_neg hz] at e; cases e
    · cases h : isSq d0 with
      | none => rw [h] at e; cases e
      | some es =>
        rw [h] at e; cases e
        obtain ⟨a, xs, rfl, h1, h2⟩ := Rb.seq' s r h
        exact .inl ⟨a, xs, rfl, h1, by rw [h2.len]; exact q _ G H (New.refl s) Rz.int_⟩
  · cases e
/-! tuple, list -/
def tupleD : List D → Option D
  | [d] => (isSq d).map .tup
  | _ => none
def rTupleP (K : PySem.W.Frag) : List V → Hp → VK → Prop := fun xs H Q => ∃ p ys, xs = [.ref p] ∧ ((SqL K H p ys ∧ ∀ l (o : Obj), H l = none → o.dict = none → Q (.ref l) (upd H l (.frz o (.tup ys)))) ∨ (SqT K H p ys ∧ Q (.ref p) H))
theorem call_tupleP : CallR X (.type "tuple") (rTupleP X.K) := by
  intro pins s σ H xs us Q I r h
  obtain ⟨p, ys, rfl, h⟩ := h
  obtain ⟨u, rfl, rx⟩ := vals1 r
  cases rx
  rcases h with ⟨hq, q⟩ | ⟨hq, q⟩
  · obtain ⟨its, r', pl, hz⟩ := I.list hq
    have hlen := r'.length
    refine call_tuple_list pl.isList (fun h' kp => ?_) (by simp only [List.size_toArray] <;> omega)
    have I1 : Inv X pins σ H { s with heap := h' } := I.kept (t' := s.toks) kp
    have I2 : Inv X pins σ (upd H h'.objs.size (.frz { cls := .type "tuple", data := .seq its.toArray } (.tup ys))) { s with heap := h'.push { cls := .type "tuple", data := .seq its.toArray } } :=
      I1.laid (t' := s.toks) (fun b o e => Heap.get?_push_of_some _ e) (Nat.le_refl _) (show ObjOk X.prog X.w _ _ _ (.frz _ (.tup ys)) from ⟨Heap.get?_push_size _ rfl, hz, its, r', IsTup.new _ _⟩)
    exact ⟨.ref h'.objs.size, _, I2, rfl, q _ _ (I1.hok.fresh (Nat.le_refl _)) rfl⟩
  · obtain ⟨its, r', pl, hz⟩ := I.tuple hq
    exact call_tuple_same pl ⟨.ref p, H, I, rfl, q⟩
theorem snd_tuple {K : PySem.W.Frag} : SndL K T (rTupleP K) tupleD := fun vs ds d G H Q s rb e q => by
  unfold tupleD at e
  split at e
  · rename_i d'
    obtain ⟨v, rfl, r⟩ := rb.one
    cases d' with
    | tup es => cases e; obtain ⟨a, xs, rfl, h1, h2⟩ := Rb.tup s r; exact ⟨a, xs, rfl, .inr ⟨Same.tup s h1.t, q _ G H (New.refl s) (Rz.tup_ h1 h2)⟩⟩
    | lst es =>
      cases e
      obtain ⟨a, xs, rfl, h1, h2⟩ := Rb.lst s r
      exact ⟨a, xs, rfl, .inl ⟨SqL.of h1, fun l o hl ho => q _ _ _ (New.one s hl) (Rz.tup_ (.inl ⟨o, upd_same, ho⟩) (h2.mono (New.one (T := T) (o := HO.frz o (.tup xs)) s hl).gro))⟩⟩
    | frz es =>
      cases e
      obtain ⟨a, xs, rfl, h1, h2⟩ := Rb.frz s r
      exact ⟨a, xs, rfl, .inl ⟨h1, fun l o hl ho => q _ _ _ (New.one s hl) (Rz.tup_ (.inl ⟨o, upd_same, ho⟩) (h2.mono (New.one (T := T) (o := HO.frz o (.tup xs)) s hl).gro))⟩⟩
    | _ => cases e
  · cases e
def listD : List D → Option D
  | [d] => (isSq d).map .lst
  | _ => none
theorem snd_list {K : PySem.W.Frag} : SndL K T (fun xs H Q => ∃ p ys, xs = [.ref p] ∧ (SqL K H p ys ∨ SqT K H p ys) ∧ ∀ l, H l = none → Q (.ref l) (upd H l (.lst ys))) listD := fun vs ds d G H Q s rb e q => by
  unfold listD at e
  split at e
  · rename_i d'
    obtain ⟨v, rfl, r⟩ := rb.one
    cases h : isSq d' with
    | none => rw [h] at e; cases e
    | some es =>
      rw [h] at e; cases e
      obtain ⟨a, xs, rfl, h1, h2⟩ := Rb.seq' s r h
      exact ⟨a, xs, rfl, h1, fun l hl => q _ _ _ (New.one s hl) (Rz.lst_ upd_same (h2.mono (New.one (T := T) (o := HO.lst xs) s hl).gro))⟩
  · cases e
/-! abs, int, min, max of some ints -/
def absD : List D → Option D
  | [.int i] => some (.int (if i < 0 then -i else i))
  | _ => none
theorem snd_abs {K : PySem.W.Frag} : SndL K T (fun xs H Q => ∃ i, xs = [.int i] ∧ Q (.int (if i < 0 then -i else i)) H) absD := fun vs ds d G H Q s rb e q => by
  unfold absD at e
  split at e
  · obtain ⟨v, rfl, r⟩ := rb.one
    cases e
    exact ⟨_, by rw [r.int], q _ G H (New.refl s) Rz.int_⟩
  · cases e
def intD : List D → Option D
  | [.int i] => some (.int i)
  | [.bl b] => some (.int (if b then 1 else 0))
  | _ => none
theorem snd_int {K : PySem.W.Frag} : SndL K T (fun xs H Q => (∃ i, xs = [.int i] ∧ Q (.int i) H) ∨ ∃ k, xs = [.bl k] ∧ Q (.int (if k then 1 else 0)) H) intD := fun vs ds d G H Q s rb e q => by
  unfold intD at e
  split at e
  · obtain ⟨v, rfl, r⟩ := rb.one
    cases e
    exact .inl ⟨_, by rw [r.int], q _ G H (New.refl s) Rz.int_⟩
  · obtain ⟨v, rfl, r⟩ := rb.one
    cases e
    exact .inr ⟨_, by rw [r.bl], q _ G H (New.refl s) Rz.int_⟩
  · cases e
def max2D : List D → Option D
  | [.int i, .int j] => some (.int (if j > i then j else i))
  | _ => none
theorem snd_max2 {K : PySem.W.Frag} : SndL K T (fun xs H Q => ∃ i j, xs = [.int i, .int j] ∧ Q (.int (if j > i then j else i)) H) max2D := fun vs ds d G H Q s rb e q => by
  unfold max2D at e
  split at e
  · obtain ⟨v, w, rfl, r, r2⟩ := rb.two
    cases e
    exact ⟨_, _, by rw [r.int, r2.int], q _ G H (New.refl s) Rz.int_⟩
  · cases e
def min2D : List D → Option D
  | [.int i, .int j] => some (.int (if j < i then j else i))
  | _ => none
theorem snd_min2 {K : PySem.W.Frag} : SndL K T (fun xs H Q => ∃ i j, xs = [.int i, .int j] ∧ Q (.int (if j < i then j else i)) H) min2D := fun vs ds d G H Q s rb e q => by
  unfold min2D at e
  split at e
  · obtain ⟨v, w, rfl, r, r2⟩ := rb.two
    cases e
    exact ⟨_, _, by rw [r.int, r2.int], q _ G H (New.refl s) Rz.int_⟩
  · cases e
/-! any, all, sum -/
def blsD : List D → Option (List Bool)
  | [] => some []
  | .bl b :: ds => (blsD ds).map (b :: ·)
  | _ => none
theorem bls_rz {K : PySem.W.Frag} {G : Hp} : ∀ {vs : List V} {ds : List D} {bs : List Bool}, RzL K T G vs ds → blsD ds = some bs → vs = bs.map V.bl
  | vs, [], bs, r, e => by cases e; exact r.nil_inv
  | vs, d :: ds, bs, r, e => by
    obtain ⟨v, us, rfl, h1, h2⟩ := r.cons_inv
    cases d with
    | bl b =>
      unfold blsD at e
      cases q : blsD ds with
      | none => rw [q] at e; cases e
      | some cs =>
        rw [q] at e; cases e
        rw [Rz] at h1
        rw [h1, bls_rz h2 q]; rfl
    | _ => cases e
def intsD : List D → Option (List Int)
  | [] => some []
  | .int b :: ds => (intsD ds).map (b :: ·)
  | _ => none
theorem ints_rz {K : PySem.W.Frag} {G : Hp} : ∀ {vs : List V} {ds : List D} {bs : List Int}, RzL K T G vs ds → intsD ds = some bs → vs = bs.map V.int
  | vs, [], bs, r, e => by cases e; exact r.nil_inv
  | vs, d :: ds, bs, r, e => by
    obtain ⟨v, us, rfl, h1, h2⟩ := r.cons_inv
    cases d with
    | int b =>
      unfold intsD at e
      cases q : intsD ds with
      | none => rw [q] at e; cases e
      | some cs =>
        rw [q] at e; cases e
        rw [Rz] at h1
        rw [h1, ints_rz h2 q]; rfl
    | _ => cases e
theorem rz_ints {K : PySem.W.Frag} {G : Hp} : ∀ (ns : List Int), RzL K T G (ns.map V.int) (ns.map D.int)
  | [] => RzL.nil
  | n :: ns => RzL.cons Rz.int_ (rz_ints ns)
def lsOf : D → Option (List D)
  | .lst ds => some ds
  | .frz ds => some ds
  | _ => none
theorem Rb.lsOf {K : PySem.W.Frag} {G H : Hp} {v : V} {d : D} {ds : List D} (s : Same G H) (r : Rb K T G H v d) (e : lsOf d = some ds) : ∃ a xs, v = V.ref a ∧ SqL K H a xs ∧ RzL K T G xs ds := by
  cases d with
  | lst es => cases e; obtain ⟨a, xs, rfl, h1, h2⟩ := Rb.lst s r; exact ⟨a, xs, rfl, SqL.of h1, h2⟩
  | frz es => cases e; obtain ⟨a, xs, rfl, h1, h2⟩ := Rb.frz s r; exact ⟨a, xs, rfl, h1, h2⟩
  | _ => cases e
def anyD : List D → Option D
  | [d] => ((lsOf d).bind blsD).map fun bs => .bl (bs.any id)
  | _ => none
def allD : List D → Option D
  | [d] => ((lsOf d).bind blsD).map fun bs => .bl (bs.all id)
  | _ => none
theorem two_some {α β : Type} {x : Option α} {f : α → Option β} {b : β} (h : x.bind f = some b) : ∃ a, x = some a ∧ f a = some b := by
  cases x with
  | none => exact nomatch (show (none : Option β) = some b from h)
  | some a => exact ⟨a, rfl, h⟩
theorem map_some' {α β : Type} {x : Option α} {f : α → β} {b : β} (h : x.map f = some b) : ∃ a, x = some a ∧ f a = b := by
  cases x with
  | none => cases h
  | some a => cases h; exact ⟨a, rfl, rfl⟩
theorem snd_any {K : PySem.W.Frag} : SndL K T (rAny K) anyD := fun vs ds d G H Q s rb e q => by
  unfold anyD at e
  split at e
  · obtain ⟨v, rfl, r⟩ := rb.one
    obtain ⟨bs, h1, rfl⟩ := map_some' e
    obtain ⟨es, h2, h3⟩ := two_some h1
    obtain ⟨a, xs, rfl, h4, h5⟩ := Rb.lsOf s r h2
    have := bls_rz h5 h3
    subst this
    exact ⟨a, bs, rfl, h4, q _ G H (New.refl s) Rz.bl_⟩
  · cases e
theorem snd_all {K : PySem.W.Frag} : SndL K T (rAll K) allD := fun vs ds d G H Q s rb e q => by
  unfold allD at e
  split at e
  · obtain ⟨v, rfl, r⟩ := rb.one
    obtain ⟨bs, h1, rfl⟩ := map_some' e
    obtain ⟨es, h2, h3⟩ := two_some h1
    obtain ⟨a, xs, rfl, h4, h5⟩ := Rb.lsOf s r h2
    have := bls_rz h5 h3
    subst this
    exact ⟨a, bs, rfl, h4, q _ G H (New.refl s) Rz.bl_⟩
  · cases e
def sumD : List D → Option D
  | [d] => ((lsOf d).bind intsD).map fun ns => .int ns.sum
  | _ => none
theorem snd_sum {K : PySem.W.Frag} : SndL K T (rSum K) sumD := fun vs ds d G H Q s rb e q => by
  unfold sumD at e
  split at e
  · obtain ⟨v, rfl, r⟩ := rb.one
    obtain ⟨bs, h1, rfl⟩ := map_some' e
    obtain ⟨es, h2, h3⟩ := two_some h1
    obtain ⟨a, xs, rfl, h4, h5⟩ := Rb.lsOf s r h2
    have := ints_rz h5 h3
    subst this
    exact ⟨a, bs, rfl, h4, q _ G H (New.refl s) Rz.int_⟩
  · cases e
/-! the largest, the least of a list, a tuple -/
def maxI : Int → List Int → Int
  | m, [] => m
  | m, n :: ns => maxI (if n > m then n else m) ns
def minI : Int → List Int → Int
  | m, [] => m
  | m, n :: ns => minI (if n < m then n else m) ns
theorem maxI_spec : ∀ (ns : List Int) (m : Int), (maxI m ns = m ∨ maxI m ns ∈ ns) ∧ m ≤ maxI m ns ∧ ∀ y ∈ ns, y ≤ maxI m ns
  | [], m => ⟨.inl rfl, Int.le_refl _, fun y h => by cases h⟩
  | n :: ns, m => by
    unfold maxI
    obtain ⟨h1, h2, h3⟩ := maxI_spec ns (if n > m then n else m)
    refine ⟨?_, ?_, fun y hy => ?_⟩
    · rcases h1 with h1 | h1
      · by_cases h : n > m
        · rw [if_pos h] at h1 ⊢; exact .inr (by rw [h1]; exact List.mem_cons_self)
        · rw [if_neg h] at h1 ⊢; exact .inl h1
      · exact .inr (List.mem_cons_of_mem _ h1)
    · by_cases h : n > m
      · rw [if_pos h] at h2 ⊢; omega
      · rw [if_neg h] at h2 ⊢; exact h2
    · rcases List.mem_cons.mp hy with rfl | hy
      · by_cases h : y > m
        · rw [if_pos h] at h2 ⊢; exact h2
        · rw [if_neg h] at h2 ⊢; omega
      · exact h3 y hy
theorem minI_spec : ∀ (ns : List Int) (m : Int), (minI m ns = m ∨ minI m ns ∈ ns) ∧ minI m ns ≤ m ∧ ∀ y ∈ ns, minI m ns ≤ y
  | [], m => ⟨.inl rfl, Int.le_refl _, fun y h => by cases h⟩
  | n :: ns, m => by
    unfold minI
    obtain ⟨h1, h2, h3⟩ := minI_spec ns (if n < m then n else m)
    refine ⟨?_, ?_, fun y hy => ?_⟩
    · rcases h1 with h1 | h1
      · by_cases h : n < m
        · rw [if_pos h] at h1 ⊢; exact .inr (by rw [h1]; exact List.mem_cons_self)
        · rw [if_neg h] at h1 ⊢; exact .inl h1
      · exact .inr (List.mem_cons_of_mem _ h1)
    · by_cases h : n < m
      · rw [if_pos h] at h2 ⊢; omega
      · rw [if_neg h] at h2 ⊢; exact h2
    · rcases List.mem_cons.mp hy with rfl | hy
      · by_cases h : y < m
        · rw [if_pos h] at h2 ⊢; exact h2
        · rw [if_neg h] at h2 ⊢; omega
      · exact h3 y hy
def maxL : List Int → Option Int
  | [] => none
  | n :: ns => some (maxI n ns)
def minL : List Int → Option Int
  | [] => none
  | n :: ns => some (minI n ns)
theorem maxL_of {ns : List Int} {m : Int} (h : maxL ns = some m) : 0 < ns.length ∧ ∀ z, z ∈ ns → (∀ y, y ∈ ns → y ≤ z) → z = m := by
  cases ns with
  | nil => cases h
  | cons n ns =>
    cases h
    obtain ⟨h1, h2, h3⟩ := maxI_spec ns n
    refine ⟨by simp, fun z hz hy => ?_⟩
    have a1 : maxI n ns ≤ z := by
      rcases h1 with h1 | h1
      · rw [h1]; exact hy n List.mem_cons_self
      · exact hy _ (List.mem_cons_of_mem _ h1)
    have a2 : z ≤ maxI n ns := by
      rcases List.mem_cons.mp hz with rfl | hz
      · exact h2
      · exact h3 z hz
    omega
theorem minL_of {ns : List Int} {m : Int} (h : minL ns = some m) : 0 < ns.length ∧ ∀ z, z ∈ ns → (∀ y, y ∈ ns → z ≤ y) → z = m := by
  cases ns with
  | nil => cases h
  | cons n ns =>
    cases h
    obtain ⟨h1, h2, h3⟩ := minI_spec ns n
    refine ⟨by simp, fun z hz hy => ?_⟩
    have a1 : z ≤ minI n ns := by
      rcases h1 with h1 | h1
      · rw [h1]; exact hy n List.mem_cons_self
      · exact hy _ (List.mem_cons_of_mem _ h1)
    have a2 : minI n ns ≤ z := by
      rcases List.mem_cons.mp hz with rfl | hz
      · exact h2
      · exact h3 z hz
    omega
/-- max(xs), min(xs): a list or a tuple of ints -/
def maxD : List D → Option D
  | [d] => (((isSq d).bind intsD).bind maxL).map .int
  | _ => none
def minD : List D → Option D
  | [d] => (((isSq d).bind intsD).bind minL).map .int
  | _ => none
end
section
variable {prog : Program} {w : World} {A : Around} {E : Value → Shared → Prop} {s : Shared} {l : Addr} {its : List Value} {ns : List Int} {xs : Array (Int × Tok)} {Q : Value → Shared → Prop}
theorem iter_intTuple (hl : s.heap.IsTuple l (intItems xs))
    (h : ∀ s₂ : Shared, s₂ = { s with heap := s.heap.push { cls := .type "tuple_iterator", data := .fields #[.ref l, .int 0 0] } } →
      (s₂.heap.IsTupleIter s.heap.objs.size l 0 ∧ s₂.heap.IsTuple l (intItems xs)) → (∀ b ∈ [s.heap.objs.size, l], b < s₂.heap.objs.size) → l ≠ s.heap.objs.size → Q (.ref s.heap.objs.size) s₂) :
    wpAny (model prog w) A (pyIter (.ref l)) Q E s := by
  have hlt : l < s.heap.objs.size := by obtain ⟨_, e, _⟩ := hl; exact Heap.lt_size e
  refine wpAny_pyIter_tuple hl (h _ rfl ⟨⟨_, Heap.get?_push_size _ rfl, rfl, rfl⟩, hl.at fun o e => Heap.get?_push_of_some _ e⟩ (fun b hb => ?_) (Nat.ne_of_lt hlt))
  show b < (s.heap.push _).objs.size
  rw [Heap.size_push]
  rcases List.mem_cons.mp hb with rfl | hb
  · exact Nat.lt_succ_self _
  · rcases List.mem_cons.mp hb with rfl | hb
    · exact Nat.lt_succ_of_lt hlt
    · cases hb
theorem old_keptT {o1 : Obj} {h' : Heap} (hk : ∀ b o, b ∉ [s.heap.objs.size] → (s.heap.push o1).get? b = some o → h'.get? b = some o) :
    ∀ b o, s.heap.get? b = some o → h'.get? b = some o := fun b o e => by
  refine hk b o (fun hm => ?_) (Heap.get?_push_of_some _ e)
  rcases List.mem_cons.mp hm with e1 | hm
  · exact absurd (e1 ▸ Heap.lt_size e) (Nat.lt_irrefl _)
  · cases hm
theorem max_tupRaw (hh : A.handled = none) (hl : s.heap.IsTuple l its.toArray) (hi : IntsAre its ns) (hne : 0 < ns.length)
    (h : ∀ h' tk M t', (∀ b o, s.heap.get? b = some o → h'.get? b = some o) → M ∈ ns → (∀ a, a ∈ ns → a ≤ M) → Q (.int M t') { s with heap := h', toks := tk }) : wpAny (model prog w) A (call (.builtin "max") [.ref l]) Q E s := by
  obtain ⟨xs, e⟩ := hi.allInts.items
  have hn : numsOf (intItems xs).toList = ns := by rw [← e]; exact hi.numsOf
  rw [nums_intItems] at hn
  subst hn
  rw [e] at hl
  have hsz : 0 < xs.size := by simpa using hne
  refine call_max_walk (iter_intTuple hl fun s₂ e st hfp hlI => ?_)
  subst e
  refine ⟨_, _, _, _, _, _, _, rfl, Walks.tuple (A := A.in1) hh _ l hlI (intItems xs), st, hfp, by simpa [intItems] using hsz, CmpOf.ints_gt (numAt xs) (fun _ _ => intItems_at), fun v h' tk hP hk => ?_⟩
  have hP' : (intItems xs)[argBest (fun i j => decide (numAt xs i > numAt xs j)) (xs.size - 1)]? = some v := by simpa [intItems] using hP
  obtain ⟨t, rfl⟩ := intItems_at hP'
  obtain ⟨h1, h2⟩ := argBest_gt (numAt xs) (xs.size - 1)
  refine h h' tk _ t (old_keptT hk) ?_ fun a ha => ?_
  · rw [numAt_eq]; exact PySem.getD_mem (by rw [List.length_map, Array.length_toList]; omega)
  · obtain ⟨j, hj, rfl⟩ := mem_getD ha
    rw [List.length_map, Array.length_toList] at hj
    rw [← numAt_eq]; exact h2 j (by omega)
theorem min_tupRaw (hh : A.handled = none) (hl : s.heap.IsTuple l its.toArray) (hi : IntsAre its ns) (hne : 0 < ns.length)
    (h : ∀ h' tk M t', (∀ b o, s.heap.get? b = some o → h'.get? b = some o) → M ∈ ns → (∀ a, a ∈ ns → M ≤ a) → Q (.int M t') { s with heap := h', toks := tk }) : wpAny (model prog w) A (call (.builtin "min") [.ref l]) Q E s := by
  obtain ⟨xs, e⟩ := hi.allInts.items
  have hn : numsOf (intItems xs).toList = ns := by rw [← e]; exact hi.numsOf
  rw [nums_intItems] at hn
  subst hn
  rw [e] at hl
  have hsz : 0 < xs.size := by simpa using hne
  refine call_min_walk (iter_intTuple hl fun s₂ e st hfp hlI => ?_)
  subst e
  refine ⟨_, _, _, _, _, _, _, rfl, Walks.tuple (A := A.in1) hh _ l hlI (intItems xs), st, hfp, by simpa [intItems] using hsz, CmpOf.ints_lt (numAt xs) (fun _ _ => intItems_at), fun v h' tk hP hk => ?_⟩
  have hP' : (intItems xs)[argBest (fun i j => decide (numAt xs i < numAt xs j)) (xs.size - 1)]? = some v := by simpa [intItems] using hP
  obtain ⟨t, rfl⟩ := intItems_at hP'
  obtain ⟨h1, h2⟩ := argBest_lt (numAt xs) (xs.size - 1)
  refine h h' tk _ t (old_keptT hk) ?_ fun a ha => ?_
  · rw [numAt_eq]; exact PySem.getD_mem (by rw [List.length_map, Array.length_toList]; omega)
  · obtain ⟨j, hj, rfl⟩ := mem_getD ha
    rw [List.length_map, Array.length_toList] at hj
    rw [← numAt_eq]; exact h2 j (by omega)
end
section
variable {X : Cx} {T : Tab} {W : WX} {pos : Pos}
def rMax2 (K : PySem.W.Frag) : List V → Hp → VK → Prop := fun vs H Q => ∃ (a : Addr) (ns : List Int), vs = [V.ref a] ∧ (SqL K H a (ns.map V.int) ∨ SqT K H a (ns.map V.int)) ∧ 0 < ns.length ∧ ∀ m, m ∈ ns → (∀ y, y ∈ ns → y ≤ m) → Q (.int m) H
def rMin2 (K : PySem.W.Frag) : List V → Hp → VK → Prop := fun vs H Q => ∃ (a : Addr) (ns : List Int), vs = [V.ref a] ∧ (SqL K H a (ns.map V.int) ∨ SqT K H a (ns.map V.int)) ∧ 0 < ns.length ∧ ∀ m, m ∈ ns → (∀ y, y ∈ ns → m ≤ y) → Q (.int m) H
theorem call_maxS (hc : X.calm = true) : CallR X (.builtin "max") (rMax2 X.K) := by
  intro pins s σ H vs us Q I r h
  obtain ⟨a, ns, rfl, hs | hs, hne, q⟩ := h
  · exact cr_max hc pins s σ H _ us Q I r ⟨a, ns, rfl, hs, hne, q⟩
  · obtain ⟨its, rv, hl, _⟩ := I.tuple hs
    rw [Vals.ref1 r]
    exact max_tupRaw (I.ok.hd hc) hl rv.ints hne fun h' tk m t' hk h1 h2 => ⟨.int _, H, I.kept hk, ⟨_, rfl⟩, q m h1 h2⟩
theorem call_minS (hc : X.calm = true) : CallR X (.builtin "min") (rMin2 X.K) := by
  intro pins s σ H vs us Q I r h
  obtain ⟨a, ns, rfl, hs | hs, hne, q⟩ := h
  · exact cr_min hc pins s σ H _ us Q I r ⟨a, ns, rfl, hs, hne, q⟩
  · obtain ⟨its, rv, hl, _⟩ := I.tuple hs
    rw [Vals.ref1 r]
    exact min_tupRaw (I.ok.hd hc) hl rv.ints hne fun h' tk m t' hk h1 h2 => ⟨.int _, H, I.kept hk, ⟨_, rfl⟩, q m h1 h2⟩
theorem snd_maxS {K : PySem.W.Frag} : SndL K T (rMax2 K) maxD := fun vs ds d G H Q s rb e q => by
  unfold maxD at e
  split at e
  · obtain ⟨v, rfl, r⟩ := rb.one
    obtain ⟨m, h1, rfl⟩ := map_some' e
    obtain ⟨ns, h2, h3⟩ := two_some h1
    obtain ⟨es, h4, h5⟩ := two_some h2
    obtain ⟨a, xs, rfl, h6, h7⟩ := Rb.seq' s r h4
    have := ints_rz h7 h5
    subst this
    obtain ⟨p1, p2⟩ := maxL_of h3
    exact ⟨a, ns, rfl, h6, p1, fun z hz hy => by rw [p2 z hz hy]; exact q _ G H (New.refl s) Rz.int_⟩
  · cases e
theorem snd_minS {K : PySem.W.Frag} : SndL K T (rMin2 K) minD := fun vs ds d G H Q s rb e q => by
  unfold minD at e
  split at e
  · obtain ⟨v, rfl, r⟩ := rb.one
    obtain ⟨m, h1, rfl⟩ := map_some' e
    obtain ⟨ns, h2, h3⟩ := two_some h1
    obtain ⟨es, h4, h5⟩ := two_some h2
    obtain ⟨a, xs, rfl, h6, h7⟩ := Rb.seq' s r h4
    have := ints_rz h7 h5
    subst this
    obtain ⟨p1, p2⟩ := minL_of h3
    exact ⟨a, ns, rfl, h6, p1, fun z hz hy => by rw [p2 z hz hy]; exact q _ G H (New.refl s) Rz.int_⟩
  · cases e
end
end Zd
end
section
/-! Zd 14: sum(lists, []). -/
namespace Zd
open PySem PySem.Spec PyProof.Rows L2
set_option autoImplicit false
abbrev lsO (its : List Value) (n : Nat) : Obj := { cls := .type "list", dict := none, data := .seq its.toArray n, slots := #[] }
section
variable {prog : Program} {w : World} {A : Around} {R : Result → Shared → Prop} {I : Addr} {fp wr : List Addr} {n : Nat} {P : Nat → Value → Prop} {St : Nat → Heap → Prop}
def preCat (B : Nat → List Value) : Nat → List Value
  | 0 => []
  | j + 1 => preCat B j ++ B j
theorem code_sumL (W : Walks prog w A.in1 I fp wr n P St) (B : Nat → List Value) (S : Addr) (hSf : S ∉ fp) (hz : ∀ j, j ≤ n → (preCat B j).length ≤ 1000000) (hzB : ∀ j, j < n → (B j).length ≤ 1000000) (hex : ∀ i h, St i h → ∀ b ∈ fp, ∃ o, h.get? b = some o) :
    ∀ (k i : Nat) (s : Shared) (c p m : Nat), n - i = k → i ≤ n → St i s.heap → s.heap.get? S = some (lsO [.ref p] c) → s.heap.get? p = some (lsO (preCat B i) m) → p ∉ wr → p ≠ S →
    (∀ j v, i ≤ j → P j v → ∃ b m, v = .ref b ∧ b ∉ wr ∧ b ≠ S ∧ s.heap.get? b = some (lsO (B j) m)) →
    (∀ h' tk q m', (∀ b o, b ∉ wr → b ≠ S → s.heap.get? b = some o → h'.get? b = some o) → h'.get? q = some (lsO (preCat B n) m') → (q = p ∨ s.heap.get? q = none) → R (.ok (.ret (.ref q))) { s with heap := h', toks := tk }) →
    codeAny (model prog w) A (.builtin "sum.loop" ⟨[.ref I, .ref S, rawInt 2, rawInt 0], []⟩) R s := by
  have hSw : S ∉ wr := fun h => hSf (W.sub _ h)
  intro k
  induction k with
  | zero =>
    intro i s c p m hk hi hst hS hp hpw hpS hB hR
    have hin : i = n := by omega
    subst hin
    refine codeAny_builtin F.entry_sum_loop ?_
    rw [Around.under_plainId F.plain_sum_loop _]
    show wpAny _ A.in1 (seqItems? (.ref S) >>= _) _ _ s
    refine wpAny_bind (wpAny_seqItems hS rfl ?_)
    show wpAny _ A.in1 (tryCatch (pyNext (.ref I)) _ >>= _) _ _ s
    refine wpAny_bind (wpAny_tryCatch (W.done s _ _ hst fun h' tk hk' => ?_))
    exact wpAny_pure (hR h' tk p m (fun b o hbw _ e => hk' b o hbw e) (hk' p _ hpw hp) (.inl rfl))
  | succ k ih =>
    intro i s c p m hk hi hst hS hp hpw hpS hB hR
    have hlt : i < n := by omega
    refine codeAny_builtin F.entry_sum_loop ?_
    rw [Around.under_plainId F.plain_sum_loop _]
    show wpAny _ A.in1 (seqItems? (.ref S) >>= _) _ _ s
    refine wpAny_bind (wpAny_seqItems hS rfl ?_)
    show wpAny _ A.in1 (tryCatch (pyNext (.ref I)) _ >>= _) _ _ s
    refine wpAny_bind (wpAny_tryCatch (W.item i s _ _ hlt hst fun v h' tk hP hst' hk' => ?_))
    obtain ⟨b, mb, rfl, hbw, hbS, hb⟩ := hB i v (Nat.le_refl _) hP
    have hS' := hk' S _ hSw hS
    have hp' := hk' p _ hpw hp
    have hb' := hk' b _ hbw hb
    show wpAny _ A.in1 ((holding [Value.ref b] (binaryOp .Add (.ref p) (.ref b))).attempt >>= _) _ _ _
    refine wpAny_bind (wpAny_attempt (wpAny_holding (PySem.P.add_list (n := m) (n2 := mb) hp' hb' ?_ (by have := hz i hi; have := hzB i hlt; rw [sizeLine_eq]; simp only [List.size_toArray]; omega))))
    have ea : (preCat B i).toArray ++ (B i).toArray = (preCat B (i + 1)).toArray := by simp [preCat]
    rw [ea]
    have kp : ∀ b o, h'.get? b = some o → (h'.push { cls := .type "list", data := .seq (preCat B (i + 1)).toArray }).get? b = some o := fun b o e => Heap.get?_push_of_some _ e
    have hS2 := kp _ _ hS'
    have hnew : (h'.push { cls := .type "list", data := .seq (preCat B (i + 1)).toArray }).get? h'.objs.size = some (lsO (preCat B (i + 1)) 0) := Heap.get?_push_size _ rfl
    show wpAny _ A.in1 (updateSeq S (fun _ => #[Value.ref h'.objs.size]) >>= _) _ _ _
    refine wpAny_bind (wpAny_updateSeq hS2 rfl ?_)
    have hS₂ := Heap.get?_update_self (Obj.mapSeq fun _ => #[Value.ref h'.objs.size]) hS2 rfl
    refine wpAny_bind (wpAny_letGo ?_)
    have ne : S ≠ h'.objs.size := Nat.ne_of_lt (Heap.lt_size hS')
    have oth : ∀ b o, b ≠ S → h'.get? b = some o → (((h'.push { cls := .type "list", data := .seq (preCat B (i + 1)).toArray }).update S (Obj.mapSeq fun _ => #[Value.ref h'.objs.size])).update S (Obj.mapSeq fun _ => #[Value.ref h'.objs.size])).get? b = some o := fun b o hbS e =>
      (Heap.get?_update_other _ _ (Ne.symm hbS)).trans ((Heap.get?_update_other _ _ (Ne.symm hbS)).trans (kp _ _ e))
    refine wpAny_bind (wpAny_updateSeq hS₂ rfl (wpAny_pure ⟨plainId_quiet F.plain_sum_loop _, ih (i + 1) _ _ h'.objs.size 0 (by omega) hlt (W.frame _ _ _ hst' fun b hb o e => ?_) (Heap.get?_update_self _ hS₂ rfl) ?_ ?_ ?_ ?_ ?_⟩))
    · exact oth b o (fun h : b = S => hSf (by rw [← h]; exact hb)) e
    · exact (Heap.get?_update_other _ _ ne).trans ((Heap.get?_update_other _ _ ne).trans hnew)
    · intro hm
      obtain ⟨o, ho⟩ := hex _ _ hst' _ (W.sub _ hm)
      exact absurd (Heap.lt_size ho) (Nat.lt_irrefl _)
    · exact Ne.symm ne
    · intro j v hj hPj
      obtain ⟨b, mb, e1, e2, e3, e4⟩ := hB j v (by omega) hPj
      exact ⟨b, mb, e1, e2, e3, oth b _ e3 (hk' b _ e2 e4)⟩
    · intro h'' tk'' q m' hk'' hq hqq
      refine hR h'' tk'' q m' (fun b o hbw hbS e => hk'' b o hbw hbS (oth b o hbS (hk' b o hbw e))) hq (.inr ?_)
      rcases hqq with rfl | hqq
      · cases e : s.heap.get? h'.objs.size with
        | none => rfl
        | some o =>
          by_cases hw : h'.objs.size ∈ wr
          · obtain ⟨o, ho⟩ := hex _ _ hst' _ (W.sub _ hw)
            exact absurd (Heap.lt_size ho) (Nat.lt_irrefl _)
          · exact absurd (Heap.lt_size (hk' _ _ hw e)) (Nat.lt_irrefl _)
      · cases e : s.heap.get? q with
        | none => rfl
        | some o =>
          exfalso
          by_cases hS0 : q = S
          · subst hS0
            rw [Heap.get?_update_self _ hS₂ rfl] at hqq
            cases hqq
          · by_cases hw : q ∈ wr
            · obtain ⟨o, ho⟩ := hex _ _ hst' _ (W.sub _ hw)
              rw [oth q o hS0 ho] at hqq; cases hqq
            · rw [oth q o hS0 (hk' _ _ hw e)] at hqq; cases hqq
end
section
variable {prog : Program} {w : World} {A : Around} {E : Value → Shared → Prop} {s : Shared}
theorem args_sum2 (a b : Value) : argsOk "sum" ⟨[a, b], []⟩ := by unfold argsOk; kernel_rfl
theorem sub_list_str : isSubtype (.type "list") (.type "str") = pure false := by rw [isSubtype_type]; kernel_rfl
theorem sub_list_bytes : isSubtype (.type "list") (.type "bytes") = pure false := by rw [isSubtype_type]; kernel_rfl
theorem sub_list_bytearray : isSubtype (.type "list") (.type "bytearray") = pure false := by rw [isSubtype_type]; kernel_rfl
theorem call_sumL {l p : Addr} {items : Array Value} {m : Nat} {B : Nat → List Value} {Q : Value → Shared → Prop} (hh : A.in1.handled = none) (hl : s.heap.IsList l items) (hp : s.heap.get? p = some (lsO [] m)) (hz : ∀ j, j ≤ items.size → (preCat B j).length ≤ 1000000) (hzB : ∀ j, j < items.size → (B j).length ≤ 1000000)
    (hB : ∀ j v, items[j]? = some v → ∃ b m, v = .ref b ∧ s.heap.get? b = some (lsO (B j) m))
    (h : ∀ h' tk q m', (∀ b o, s.heap.get? b = some o → h'.get? b = some o) → h'.get? q = some (lsO (preCat B items.size) m') → (q = p ∨ s.heap.get? q = none) → Q (.ref q) { s with heap := h', toks := tk }) :
    wpAny (model prog w) A (call (.builtin "sum") [.ref l, .ref p]) Q E s := by
  have ltOf : ∀ b o, s.heap.get? b = some o → b < s.heap.objs.size := fun b o e => Heap.lt_size e
  have hlt : l < s.heap.objs.size := by obtain ⟨_, e, _⟩ := hl; exact Heap.lt_size e
  refine call_function_tree F.kind_sum F.plain_sum F.entry_sum (args_sum2 _ _) ?_
  unfold Builtin.«sum»
  simp only [List.length_cons, List.length_nil]
  rw [if_neg (by decide)]
  refine wpAny_bind (wpAny_of_eq (show Builtin.Builtins.bindParams "sum" ["start"] 0 ⟨[.ref p], []⟩ = pure [some (.ref p)] from rfl) ?_)
  refine wpAny_bind (wpAny_pyIter_list hl ?_)
  have k1 : ∀ b o, s.heap.get? b = some o → (s.heap.push { cls := .type "list_iterator", data := .fields #[.ref l, .int 0 0] }).get? b = some o := fun b o e => Heap.get?_push_of_some _ e
  have hp1 := k1 _ _ hp
  refine wpAny_bind (wpAny_pure ?_)
  simp only [List.forIn_cons, List.forIn_nil]
  have hT : ∀ t, ({ s with heap := s.heap.push { cls := .type "list_iterator", data := .fields #[.ref l, .int 0 0] }, toks := t } : Shared).TypeIs (.ref p) "list" := fun t => ⟨_, hp1, rfl⟩
  refine wpAny_bind (wpAny_bind (wpAny_bind (wpAny_isInstance (T := "list") (b := false) (hT _) sub_list_str ?_)))
  simp only [Bool.false_eq_true, if_false]
  refine wpAny_pure (wpAny_bind (wpAny_bind (wpAny_isInstance (T := "list") (b := false) (hT _) sub_list_bytes ?_)))
  simp only [Bool.false_eq_true, if_false]
  refine wpAny_pure (wpAny_bind (wpAny_bind (wpAny_isInstance (T := "list") (b := false) (hT _) sub_list_bytearray ?_)))
  simp only [Bool.false_eq_true, if_false]
  refine wpAny_pure (wpAny_pure ?_)
  refine wpAny_bind (wpAny_newObj_type ?_)
  have hsz : (s.heap.push { cls := .type "list_iterator", data := .fields #[.ref l, .int 0 0] }).objs.size = s.heap.objs.size + 1 := Heap.size_push ..
  have W := Walks.list (prog := prog) (w := w) (A := A.in1) hh s.heap.objs.size l (Nat.ne_of_lt hlt) items
  have k2 : ∀ b o, s.heap.get? b = some o → ((s.heap.push { cls := .type "list_iterator", data := .fields #[.ref l, .int 0 0] }).push { cls := .type "list", data := .seq #[.ref p] }).get? b = some o := fun b o e => Heap.get?_push_of_some _ (k1 b o e)
  have inI : ((s.heap.push { cls := .type "list_iterator", data := .fields #[.ref l, .int 0 0] }).push { cls := .type "list", data := .seq #[.ref p] }).get? s.heap.objs.size = some { cls := .type "list_iterator", data := .fields #[.ref l, .int 0 0] } := Heap.get?_push_of_some _ (Heap.get?_push_size _ rfl)
  have neI : ∀ b o, s.heap.get? b = some o → b ≠ s.heap.objs.size := fun b o e => Nat.ne_of_lt (ltOf b o e)
  have neS : ∀ b o, s.heap.get? b = some o → b ≠ (s.heap.push { cls := .type "list_iterator", data := .fields #[.ref l, .int 0 0] }).objs.size := fun b o e => by
    rw [hsz]; exact Nat.ne_of_lt (Nat.lt_succ_of_lt (ltOf b o e))
  have hlo : ∃ o, s.heap.get? l = some o := by obtain ⟨o, e, _⟩ := hl; exact ⟨o, e⟩
  obtain ⟨lo, hlo⟩ := hlo
  refine wpAny_pure ⟨plainId_quiet F.plain_sum_loop _, code_sumL W B ((s.heap.push { cls := .type "list_iterator", data := .fields #[.ref l, .int 0 0] }).objs.size) ?_ hz hzB ?_ items.size 0 _ 0 p m rfl (Nat.zero_le _) ?_ ?_ ?_ ?_ ?_ ?_ ?_⟩
  · intro hm
    rcases List.mem_cons.mp hm with e | hm
    · rw [hsz] at e; exact absurd e (Nat.succ_ne_self _)
    · rcases List.mem_cons.mp hm with e | hm
      · exact neS _ _ hlo e.symm
      · cases hm
  · intro i h st b hb
    rcases List.mem_cons.mp hb with e | hb
    · obtain ⟨o, ho, _⟩ := st.1; exact ⟨o, e ▸ ho⟩
    · rcases List.mem_cons.mp hb with e | hb
      · obtain ⟨o, ho, _⟩ := st.2; exact ⟨o, e ▸ ho⟩
      · cases hb
  · exact ⟨⟨_, inI, rfl, rfl⟩, hl.at fun o e => k2 _ _ e⟩
  · exact Heap.get?_push_size (s.heap.push { cls := .type "list_iterator", data := .fields #[.ref l, .int 0 0] }) (o := { cls := .type "list", data := .seq #[.ref p] }) rfl
  · exact k2 _ _ hp
  · intro hm
    rcases List.mem_cons.mp hm with e | hm
    · exact neI _ _ hp e
    · cases hm
  · exact neS _ _ hp
  · intro j v _ hv
    obtain ⟨b, mb, e1, e2⟩ := hB j v hv
    refine ⟨b, mb, e1, ?_, neS _ _ e2, k2 _ _ e2⟩
    intro hm
    rcases List.mem_cons.mp hm with e | hm
    · exact neI _ _ e2 e
    · cases hm
  · intro h' tk q m' hk hq hqq
    refine h h' tk q m' (fun b o e => hk b o ?_ (neS _ _ e) (k2 _ _ e)) hq ?_
    · intro hm
      rcases List.mem_cons.mp hm with e1 | hm
      · exact neI _ _ e e1
      · cases hm
    · rcases hqq with e | hqq
      · exact .inl e
      · right
        cases e : s.heap.get? q with
        | none => rfl
        | some o => rw [k2 _ _ e] at hqq; cases hqq
end
section
variable {X : Cx} {T : Tab} {W : WX} {pos : Pos}
def rSumL (K : PySem.W.Frag) : List V → Hp → VK → Prop := fun vs H Q => ∃ (l p : Addr) (ls : List Addr) (Bs : List (List V)), vs = [.ref l, .ref p] ∧ SqL K H l (ls.map V.ref) ∧ ls.length = Bs.length ∧ H p = some (.lst []) ∧ Bs.flatten.length ≤ 1000000 ∧
  (∀ (j : Nat) a b, ls[j]? = some a → Bs[j]? = some b → H a = some (.lst b)) ∧ (Bs.flatten = [] → Q (.ref p) H) ∧ ∀ q, H q = none → Q (.ref q) (upd H q (.lst Bs.flatten))
theorem preCat_flat {B : Nat → List Value} : ∀ (Bs : List (List Value)), (∀ (j : Nat) b, Bs[j]? = some b → B j = b) → ∀ n, n ≤ Bs.length → preCat B n = (Bs.take n).flatten
  | Bs, h, 0, _ => by simp [preCat]
  | Bs, h, n + 1, hn => by
    unfold preCat
    have hlt : n < Bs.length := hn
    have e : Bs.take (n + 1) = Bs.take n ++ [Bs[n]] := by rw [List.take_add_one, List.getElem?_eq_getElem hlt]; rfl
    rw [preCat_flat Bs h n (by omega), h n _ (List.getElem?_eq_getElem hlt), e, List.flatten_append, List.flatten_cons, List.flatten_nil, List.append_nil]
theorem lists_at {pins : List (Addr × Obj)} {σ : L2.St} {H : Hp} {s : Shared} (I : Inv X pins σ H s) : ∀ (ls : List Addr) (Bs : List (List V)), ls.length = Bs.length → (∀ (j : Nat) a b, ls[j]? = some a → Bs[j]? = some b → H a = some (.lst b)) →
    ∃ Is : List (List Value), Is.length = ls.length ∧ (∀ (j : Nat) a, ls[j]? = some a → ∃ it m, Is[j]? = some it ∧ s.heap.get? a = some (lsO it m)) ∧ Vals Bs.flatten Is.flatten
  | [], [], _, _ => ⟨[], rfl, fun j a e => by simp at e, by simpa using Paired.nil⟩
  | [], _ :: _, h, _ => by cases h
  | _ :: _, [], h, _ => by cases h
  | a :: ls, b :: Bs, hl, hB => by
    obtain ⟨Is, h1, h2, h3⟩ := lists_at I ls Bs (by simpa using hl) fun j a' b' e1 e2 => hB (j + 1) a' b' (by simpa using e1) (by simpa using e2)
    obtain ⟨z, its, n, r, hl2, e⟩ := I.lstM (hB 0 a b rfl rfl)
    refine ⟨its :: Is, by simp [h1], fun j a' e' => ?_, by rw [List.flatten_cons, List.flatten_cons]; exact r.append h3⟩
    cases j with
    | zero => simp at e'; subst e'; exact ⟨its, n, rfl, e⟩
    | succ j =>
      obtain ⟨it, m, e1, e2⟩ := h2 j a' (by simpa using e')
      exact ⟨it, m, by simpa using e1, e2⟩
theorem flat_take_le {α : Type} : ∀ (L : List (List α)) (j : Nat), ((L.take j).flatten).length ≤ L.flatten.length
  | [], j => by simp
  | a :: L, 0 => by simp
  | a :: L, j + 1 => by
    rw [List.take_succ_cons, List.flatten_cons, List.flatten_cons, List.length_append, List.length_append]
    have := flat_take_le L j
    omega
theorem flat_get_le {α : Type} : ∀ (L : List (List α)) (j : Nat) (a : List α), L[j]? = some a → a.length ≤ L.flatten.length
  | [], j, a, h => by simp at h
  | b :: L, 0, a, h => by simp at h; subst h; rw [List.flatten_cons, List.length_append]; omega
  | b :: L, j + 1, a, h => by
    have := flat_get_le L j a (by simpa using h)
    rw [List.flatten_cons, List.length_append]; omega
theorem call_sumLC (hc : X.calm = true) : CallR X (.builtin "sum") (rSumL X.K) := by
  intro pins s σ H vs us Q I r h
  obtain ⟨l, p, ls, Bs, rfl, hs, hl, hp, hz, hB, q1, q2⟩ := h
  obtain ⟨u1, u2, rfl, r1, r2⟩ := vals2 r
  cases (show u1 = Value.ref l from r1)
  cases (show u2 = Value.ref p from r2)
  obtain ⟨its, rv, hL, _⟩ := I.list hs
  obtain ⟨_, ip, n, rp, lp, ep⟩ := I.lstM hp
  have hip : ip = [] := by cases ip with
    | nil => rfl
    | cons a b => simp at lp
  subst hip
  obtain ⟨Is, h1, h2, h3⟩ := lists_at I ls Bs hl hB
  have hlen : Is.flatten.length = Bs.flatten.length := h3.length.symm
  have hits : its.length = Is.length := by rw [h1, ← rv.length, List.length_map]
  have hpre : ∀ j, j ≤ its.toArray.size → preCat (fun j => (Is[j]?).getD []) j = (Is.take j).flatten := fun j hj => preCat_flat Is (fun j b e => by show (Is[j]?).getD [] = b; rw [e]; rfl) j (by rw [List.size_toArray, hits] at hj; exact hj)
  refine call_sumL (A := X.A) (B := fun j => (Is[j]?).getD []) (I.ok.hd hc) hL.isList ep (fun j hj => ?_) (fun j hj => ?_) (fun j v hv => ?_) fun h' tk q m' hk hq hqq => ?_
  · rw [hpre j hj]
    have := flat_take_le Is j
    omega
  · have hj' : j < Is.length := by rw [List.size_toArray, hits] at hj; exact hj
    have := flat_get_le Is j Is[j] (List.getElem?_eq_getElem hj')
    show ((Is[j]?).getD []).length ≤ _
    rw [List.getElem?_eq_getElem hj']
    show (Is[j]).length ≤ _
    omega
  · have hv' : its[j]? = some v := by simpa using hv
    have hj : j < ls.length := by
      have := (List.getElem?_eq_some_iff.mp hv').1
      rw [hits, h1] at this; exact this
    obtain ⟨w, e1, e2⟩ := rv.get (i := j) (x := V.ref ls[j]) (by rw [List.getElem?_map, List.getElem?_eq_getElem hj]; rfl)
    rw [hv'] at e1; cases e1
    obtain ⟨it, m, e3, e4⟩ := h2 j ls[j] (List.getElem?_eq_getElem hj)
    exact ⟨ls[j], m, e2, by show s.heap.get? ls[j] = some (lsO ((Is[j]?).getD []) m); rw [e3]; exact e4⟩
  · rw [hpre _ (Nat.le_refl _), List.size_toArray, hits, List.take_length] at hq
    rcases hqq with rfl | hqq
    · have e := hk _ _ ep
      rw [hq] at e
      have hnil : Is.flatten = [] := by
        have e2 : (lsO Is.flatten m') = lsO [] n := Option.some.inj e
        have e3 : Is.flatten.toArray = ([] : List Value).toArray := by injection e2 with _ _ e2; injection e2
        simpa using e3
      have hB0 : Bs.flatten = [] := List.eq_nil_of_length_eq_zero (by rw [← hlen, hnil]; rfl)
      exact ⟨.ref q, H, I.kept hk, rfl, q1 hB0⟩
    · have hn : H q = none := I.hok.gone hqq
      refine ⟨.ref q, upd H q (.lst Bs.flatten), ?_, rfl, q2 q hn⟩
      exact I.un (Un.laidN hk hqq hn) (HOk.laidN I.hok hk hn ⟨line_le hz, Is.flatten, m', h3, hq⟩)
/-- operands that stand for ever -/
def dLV (f : List D → Option D) (a : DAn) : DEn := fun ρ => (a ρ).bind fun p => match (vals p.2).bind f with
  | some d => .ok (p.1, d)
  | none => .bad
def SndV (K : PySem.W.Frag) (T : Tab) (r : List V → Hp → VK → Prop) (f : List D → Option D) : Prop :=
  ∀ (vs : List V) (ds : List D) (d : D) (G H : Hp) (Q : VK), Same G H → RzL K T G vs ds → f ds = some d → (∀ v G' H', New T G H G' H' → Rz K T G' v d → Q v H') → r vs H Q
theorem tCBV_of {r : List V → Hp → VK → Prop} {f : List D → Option D} {a : DAn} (hs : SndV X.K T r f) (σ : L2.St) (H : Hp) (Q : VK) (q : tE X.K T W (dLV f a) σ H Q) : tCB r (tA X.K T W a) σ H Q := by
  obtain ⟨τ, ρ, G, k, q⟩ := q
  refine ⟨τ, ρ, G, k, (Out.bind q).imp fun ρ1 ops G1 H1 k1 fr1 q1 vs rvs fvs => ?_⟩
  dsimp only at q1
  split at q1
  · rename_i d h1
    obtain ⟨ds, h2, h3⟩ := two_some h1
    exact hs vs ds d G1 H1 Q k1.sub (rz_vals rvs h2) h3 fun z G3 H3 n rz => q1 G3 H3 (k1.new n) n.fr z rz
  · exact q1.elim
theorem de_callBV {x : Str} {id : String} {r : List V → Hp → VK → Prop} {f : List D → Option D} {e : Expr} {es : List Expr} {a : DAn} {p : Pos} (hs : SndV X.K T r f) (hc : CallR X (.builtin id) r) (ha : DA X T W (e :: es) a) (hm : X.mg x = none)
    (hv : bootBuiltins x = some (.builtin id)) (hg : Gl X x := by rfl) (hn : x ≠ "__name__" := by decide) (hdb : (x == ("__debug__" : Str)) = false := by decide)
    (he : starEach (e :: es) X.env = (false, eval e X.env) :: starEach es X.env := by rfl) (hpl : (backTo pos (starEach es X.env)).any (·.1) = false := by rfl) : DE X T W (.Call (.Name x p) (e :: es) [] pos) (dLV f a) :=
  PE.imp (pe_callB hc hg hm hv ha hn hdb he hpl) fun σ H Q q => tCBV_of hs σ H Q q
def listsD : List D → Option (List (List D))
  | [] => some []
  | .lst ds :: r => (listsD r).map (ds :: ·)
  | _ => none
def sumLD : List D → Option D
  | [.lst ds, .lst []] => (listsD ds).bind fun Ls => if Ls.flatten.length ≤ 1000000 then some (.lst Ls.flatten) else none
  | _ => none
theorem lists_rz {K : PySem.W.Frag} {G : Hp} : ∀ {vs : List V} {ds : List D} {Ls : List (List D)}, RzL K T G vs ds → listsD ds = some Ls →
    ∃ (ls : List Addr) (Bs : List (List V)), vs = ls.map V.ref ∧ ls.length = Bs.length ∧ (∀ (j : Nat) a b, ls[j]? = some a → Bs[j]? = some b → G a = some (.lst b)) ∧ RzL K T G Bs.flatten Ls.flatten
  | vs, [], Ls, r, e => by
    cases e
    cases r.nil_inv
    exact ⟨[], [], rfl, rfl, fun j a b e => by simp at e, RzL.nil⟩
  | vs, d :: ds, Ls, r, e => by
    obtain ⟨v, us, rfl, h1, h2⟩ := r.cons_inv
    cases d with
    | lst es =>
      unfold listsD at e
      cases q : listsD ds with
      | none => rw [q] at e; cases e
      | some L2 =>
        rw [q] at e; cases e
        obtain ⟨ls, Bs, rfl, h3, h4, h5⟩ := lists_rz h2 q
        rw [Rz] at h1
        obtain ⟨a, xs, rfl, h6, h7⟩ := h1
        refine ⟨a :: ls, xs :: Bs, rfl, by simp [h3], fun j a' b' e1 e2 => ?_, by rw [List.flatten_cons, List.flatten_cons]; exact h7.append h5⟩
        cases j with
        | zero => simp at e1 e2; subst e1 e2; exact h6
        | succ j => exact h4 j a' b' (by simpa using e1) (by simpa using e2)
    | _ => cases e
theorem snd_sumL {K : PySem.W.Frag} : SndV K T (rSumL K) sumLD := fun vs ds d G H Q s rb e q => by
  unfold sumLD at e
  split at e
  · rename_i ds'
    obtain ⟨v, w, rfl, r1, r2⟩ := rb.two
    obtain ⟨Ls, h1, h2⟩ := two_some e
    by_cases hz : Ls.flatten.length ≤ 1000000
    · rw [if_pos hz] at h2; cases h2
      rw [Rz] at r1 r2
      obtain ⟨l, xs, rfl, h3, h4⟩ := r1
      obtain ⟨p, ys, rfl, h5, h6⟩ := r2
      cases h6.nil_inv
      obtain ⟨ls, Bs, rfl, h7, h8, h9⟩ := lists_rz h4 h1
      refine ⟨l, p, ls, Bs, rfl, SqL.of (s _ _ h3), h7, s _ _ h5, by rw [h9.len]; exact hz, fun j a b e1 e2 => s _ _ (h8 j a b e1 e2), fun hnil => ?_, fun z hz' => q _ _ _ (New.one s hz') (Rz.lst_ upd_same (h9.mono (New.one (T := T) (o := HO.lst Bs.flatten) s hz').gro))⟩
      have : Ls.flatten = [] := List.eq_nil_of_length_eq_zero (by rw [← h9.len, hnil]; rfl)
      rw [this] at q
      exact q _ G H (New.refl s) (Rz.lst_ h5 RzL.nil)
    · rw [if_neg hz] at h2; cases h2
  · cases e
end
end Zd
end
section
/-! Zd 15: tuples' methods, tuple * int, min and max of three, sorted(set(..)). -/
namespace Zd
open PySem PySem.Spec PyProof.Rows L2
set_option autoImplicit false
section
variable {X : Cx} {T : Tab} {W : WX} {pos apos cpos : Pos}
/-! ### methods of tuples -/
def tTM (K : PySem.W.Frag) (r : V → List V → Hp → VK → Prop) (to : TE) (t : TA) : TE := fun σ H Q => to σ H fun x H1 => (∃ a xs, x = .ref a ∧ SqP K H1 a xs) ∧ t σ H1 fun vs H2 => r x vs H2 Q
theorem sqP_obj {pins : List (Addr × Obj)} {σ : L2.St} {H : Hp} {s : Shared} {a : Addr} {xs : List V} (I : Inv X pins σ H s) (h : SqP X.K H a xs) : s.TypeIs (.ref a) "tuple" ∧ ∃ ob, s.heap.get? a = some ob ∧ ob.dict = none := by
  rcases h with ⟨o, h, hd⟩ | ⟨o, its, n, h1, hd, hc, _⟩
  · obtain ⟨e, _, its, _, o', e', hc, _⟩ := (show ObjOk X.prog X.w H s.heap a (.frz o (.tup xs)) from I.hok a _ h)
    rw [e] at e'; cases e'
    exact ⟨⟨o, e, hc⟩, o, e, hd⟩
  · exact ⟨⟨o, I.kIn _ _ h1, hc⟩, o, I.kIn _ _ h1, hd⟩
theorem pe_tm {o e : Expr} {es : List Expr} {to : TE} {t : TA} {name : Str} {id : String} {r : V → List V → Hp → VK → Prop} (slot : Slot "tuple" name id) (hty : typeOf (.builtin id) = pure (.type "method_descriptor")) (hm : MtR X id r) (ho : PE X o to) (ha : PA X (e :: es) t)
    (hbase : attributeBase o name X.env (eval o X.env) = eval o X.env := by rfl)
    (hfew : ((backTo cpos (starEach (e :: es) X.env)).all (fun x => !x.1) && (backToKw cpos (keywordEach [] X.env)).all (fun x => x.1.isSome)
      && decide ((e :: es).length + ([] : List Keyword).length + (if ([] : List Keyword).isEmpty then 0 else 1) < 30)) = true := by rfl)
    (hline : (apos.endLine == cpos.line) = true := by rfl) (hs : starEach (e :: es) X.env = (false, eval e X.env) :: starEach es X.env := by rfl) (hplain : (backTo cpos (starEach es X.env)).any (·.1) = false := by rfl) :
    PE X (.Call (.Attribute o name apos) (e :: es) [] cpos) (tTM X.K r to t) := by
  refine ⟨fun pins s σ H Q I h => ?_⟩
  refine wpAny_Call_method_late hbase hfew hline rfl (thn (ho.run pins s σ H _ I h) fun v s1 ⟨x, H1, I1, r1, ty, q1⟩ => ?_)
  obtain ⟨a, xs, rfl, hq⟩ := ty
  obtain ⟨h1, ob, h2, h3⟩ := sqP_obj I1 hq
  have r1' := r1
  cases (show v = Value.ref a from r1')
  refine ⟨"tuple", id, PySem.F.plainAttrs_tuple, slot, hty, h1, fun a' e => by cases e; exact ⟨ob, h2, h3⟩, ?_⟩
  have hA := ha.run cpos pins s1 σ H1 _ I1 q1
  rw [hs] at hA ⊢
  refine Calls.callWith_builtin (by show (false || (backTo cpos (starEach es X.env)).any (·.1)) = false; rw [hplain] <;> rfl) (Calls.evalArgs_plain ?_)
  exact thn hA fun us s2 ⟨vs, H2, I2, r2, q2⟩ => hm pins s2 σ H2 (.ref a) vs (.ref a) us Q I2 r1 r2 q2
def dTM (f : List D → List D → Option D) (o : DOn) (a : DAn) : DEn := fun ρ => (o ρ).bind fun p => match argB p.1 p.2 with
  | some (.val (.tup ds)) => (a p.1).bind fun q => (match (resAll q.1 q.2).bind (f ds) with
    | some d => .ok (q.1, d)
    | none => .bad)
  | _ => .bad
/-- a method's rule does what f tells -/
def SndM (K : PySem.W.Frag) (T : Tab) (r : V → List V → Hp → VK → Prop) (f : List D → List D → Option D) : Prop :=
  ∀ (a : Addr) (xs : List V) (ds : List D) (vs : List V) (es : List D) (d : D) (G H : Hp) (Q : VK), Same G H → SqP K G a xs → RzL K T G xs ds → RbL K T G H vs es → f ds es = some d → (∀ v G' H', New T G H G' H' → Rz K T G' v d → Q v H') → r (.ref a) vs H Q
theorem de_tm {o e : Expr} {es : List Expr} {oo : DOn} {da : DAn} {name : Str} {id : String} {r : V → List V → Hp → VK → Prop} {f : List D → List D → Option D} (hf : SndM X.K T r f) (slot : Slot "tuple" name id) (hty : typeOf (.builtin id) = pure (.type "method_descriptor")) (hm : MtR X id r) (ho : DO X T W o oo) (ha : DA X T W (e :: es) da)
    (hbase : attributeBase o name X.env (eval o X.env) = eval o X.env := by rfl)
    (hfew : ((backTo cpos (starEach (e :: es) X.env)).all (fun x => !x.1) && (backToKw cpos (keywordEach [] X.env)).all (fun x => x.1.isSome)
      && decide ((e :: es).length + ([] : List Keyword).length + (if ([] : List Keyword).isEmpty then 0 else 1) < 30)) = true := by rfl)
    (hline : (apos.endLine == cpos.line) = true := by rfl) (hs : starEach (e :: es) X.env = (false, eval e X.env) :: starEach es X.env := by rfl) (hplain : (backTo cpos (starEach es X.env)).any (·.1) = false := by rfl) :
    DE X T W (.Call (.Attribute o name apos) (e :: es) [] cpos) (dTM f oo da) := by
  refine PE.imp (pe_tm slot hty hm ho ha hbase hfew hline hs hplain) fun σ H Q q => ?_
  obtain ⟨τ, ρ, G, k, q⟩ := q
  refine ⟨τ, ρ, G, k, (Out.bind q).imp fun ρ1 op G1 H1 k1 fr1 q1 v rv fv => ?_⟩
  dsimp only at q1
  split at q1
  · rename_i ds h1
    have rz := argB_val k1 h1 rv
    rw [Rz] at rz
    obtain ⟨a, xs, rfl, e1, e2⟩ := rz
    refine ⟨⟨a, xs, rfl, Same.tupP k1.sub e1⟩, τ, ρ1, G1, k1, (Out.bind q1).imp fun ρ2 ops G2 H2 k2 fr2 q2 vs rvs fvs => ?_⟩
    dsimp only at q2
    split at q2
    · rename_i d h2
      obtain ⟨es', h3, h4⟩ := two_some h2
      exact hf a xs ds vs es' d G2 H2 Q k2.sub (Same.tupP fr2.gro e1) (e2.mono fr2.gro) (k2.resolveAll rvs h3) h4 fun z G3 H3 n rz => q2 G3 H3 (k2.new n) n.fr z rz
    · exact q2.elim
  · exact q1.elim
/-- t.index(i), a tuple of ints -/
def rTIx (K : PySem.W.Frag) : V → List V → Hp → VK → Prop := fun x xs H Q => ∃ p, ∃ ys : List Int, ∃ z j, x = .ref p ∧ xs = [.int z] ∧ SqT K H p (ys.map V.int) ∧ ys[j]? = some z ∧ (∀ m, m < j → ys[m]? ≠ some z) ∧ Q (.int (j : Nat)) H
theorem flat_ints (ys : List Int) : (ys.map V.int).all flatV = true := by
  rw [List.all_map]
  exact List.all_eq_true.mpr fun _ _ => rfl
theorem mt_tup_indexI : MtR X "tuple.index" (rTIx X.K) := by
  intro pins s σ H x xs v us Q I rx rs h
  obtain ⟨p, ys, z, j, rfl, rfl, hq, hy, hno, q⟩ := h
  cases rx
  obtain ⟨u, rfl, t, rfl⟩ := vals1 rs
  obtain ⟨its, r, pl, hz⟩ := I.tuple hq
  obtain ⟨⟨cls, dd, dt, sl⟩, ho, hc, n, hd⟩ := pl
  simp only at hc hd
  subst hc
  subst hd
  have hl : its.toArray.size = ys.length := by rw [List.size_toArray, ← r.length, List.length_map]
  have hj : j < its.toArray.size := by rw [hl]; exact (List.getElem?_eq_some_iff.mp hy).1
  have at' : ∀ (m : Nat) (hm : m < its.toArray.size), ∃ y t', ys[m]? = some y ∧ its.toArray[m] = Value.int y t' := fun m hm => by
    have hm' : m < ys.length := by rw [← hl]; exact hm
    obtain ⟨w, hw, t', hw'⟩ := r.get (i := m) (x := .int ys[m]) (by simp [hm'])
    refine ⟨ys[m], t', List.getElem?_eq_getElem hm', ?_⟩
    have e := (List.getElem?_eq_some_iff.mp hw).2
    rw [← hw', ← e]
    simp
  refine call_meets PySem.F.slot_tuple_index ⟨_, ho, rfl⟩ PySem.F.entry_tuple_index (PySem.F.args_tuple_index_2 _ _) (TI.tuple_indexAt p its.toArray n dd sl (.int z t) (eqU (.int z)) j hj ?_ ?_)
    ⟨ho, fun w hw => mem_eqAt (x := .int z) ⟨t, rfl⟩ rfl r (flat_ints ys) w (by simpa using hw), ⟨.int (j : Nat), H, I.tok _, ⟨_, rfl⟩, q⟩⟩
  · obtain ⟨y, t', h1, h2⟩ := at' j hj
    rw [hy] at h1
    cases h1
    rw [h2]
    show (z == z) = true
    exact beq_self_eq_true z
  · intro m hm hmj
    obtain ⟨y, t', h1, h2⟩ := at' m hm
    rw [h2]
    show (y == z) = false
    exact beq_eq_false_iff_ne.mpr fun e => hno m hmj (e ▸ h1)
def ixI (z : Int) : List Int → Option Nat
  | [] => none
  | y :: ys => if y = z then some 0 else (ixI z ys).map (· + 1)
theorem ixI_of {z : Int} : ∀ {ys : List Int} {j : Nat}, ixI z ys = some j → ys[j]? = some z ∧ ∀ m, m < j → ys[m]? ≠ some z
  | [], j, h => by cases h
  | y :: ys, j, h => by
    unfold ixI at h
    by_cases e : y = z
    · rw [if_pos e] at h; cases h
      exact ⟨by rw [e]; rfl, fun m hm => absurd hm (Nat.not_lt_zero _)⟩
    · rw [if_neg e] at h
      obtain ⟨k, h1, rfl⟩ := map_some' h
      obtain ⟨h2, h3⟩ := ixI_of h1
      refine ⟨by simpa using h2, fun m hm => ?_⟩
      cases m with
      | zero => simp; exact e
      | succ m => simpa using h3 m (by omega)
def indexD : List D → List D → Option D
  | ds, [.int z] => ((intsD ds).bind (ixI z)).map fun j => .int (j : Nat)
  | _, _ => none
theorem snd_index {K : PySem.W.Frag} : SndM K T (rTIx K) indexD := fun a xs ds vs es d G H Q s hq r rb e q => by
  unfold indexD at e
  split at e
  · obtain ⟨v, rfl, r1⟩ := rb.one
    obtain ⟨j, h1, rfl⟩ := map_some' e
    obtain ⟨ys, h2, h3⟩ := two_some h1
    have := ints_rz r h2
    subst this
    obtain ⟨h4, h5⟩ := ixI_of h3
    exact ⟨a, ys, _, j, rfl, by rw [r1.int], Same.tup s hq.t, h4, h5, q _ G H (New.refl s) Rz.int_⟩
  · cases e
/-! ### min, max of three -/
def max3D : List D → Option D
  | [.int i, .int j, .int k] => some (.int (let m := if i < j then j else i; if m < k then k else m))
  | _ => none
def min3D : List D → Option D
  | [.int i, .int j, .int k] => some (.int (let m := if j < i then j else i; if k < m then k else m))
  | _ => none
theorem snd_max3 {K : PySem.W.Frag} : SndL K T (rNuC3 nuMax3) max3D := fun vs ds d G H Q s rb e q => by
  unfold max3D at e
  split at e
  · rename_i i j k
    obtain ⟨v, w, u, rfl, r, r2, r3⟩ := rb.three
    cases e
    refine ⟨v, w, u, .int (let m := if i < j then j else i; if m < k then k else m), rfl, ?_, q _ G H (New.refl s) Rz.int_⟩
    rw [r.int, r2.int, r3.int]
    unfold nuMax3 nuMax2 nuLt nuCB
    by_cases h : i < j
    · simp [h]
      by_cases h2 : j < k <;> simp [h2]
    · simp [h]
      by_cases h2 : i < k <;> simp [h2]
  · cases e
theorem snd_min3 {K : PySem.W.Frag} : SndL K T (rNuC3 nuMin3) min3D := fun vs ds d G H Q s rb e q => by
  unfold min3D at e
  split at e
  · rename_i i j k
    obtain ⟨v, w, u, rfl, r, r2, r3⟩ := rb.three
    cases e
    refine ⟨v, w, u, .int (let m := if j < i then j else i; if k < m then k else m), rfl, ?_, q _ G H (New.refl s) Rz.int_⟩
    rw [r.int, r2.int, r3.int]
    unfold nuMin3 nuMin2 nuLt nuCB
    by_cases h : j < i
    · simp [h]
      by_cases h2 : k < j <;> simp [h2]
    · simp [h]
      by_cases h2 : k < i <;> simp [h2]
  · cases e
end
end Zd
end
section
/-! Zd 16: tuple * int; sorted(set(..)). -/
namespace Zd
open PySem PySem.Spec PyProof.Rows L2
set_option autoImplicit false
theorem tuple_mul1 (l : Addr) (items : Array Value) (n : Nat) (dd : Option Addr) (sl : Array (Option Value)) (u : Tok) :
    Meets (Builtin.«tuple.__mul__» ⟨[.ref l, .int 1 u], []⟩) (fun _ R s => s.heap.get? l = some { cls := .type "tuple", dict := dd, data := .seq items n, slots := sl } ∧
      R (.ok (.ret (Value.ref l))) s) :=
  .of_wp fun prog w A R s h => by
    obtain ⟨hp, g, d, tk, os⟩ := s
    obtain ⟨hl, h⟩ := h
    have f1 := AutoSeq1.idx_int
    have c1 : (items.isEmpty || ((1 : Int) == 1)) = true := by simp
    wp_walk using wpAny_loadPart' hl
    exact ⟨_, rfl, h⟩
section
variable {X : Cx} {T : Tab} {W : WX} {pos apos cpos : Pos}
def rRepP (K : PySem.W.Frag) : R2 := fun x y H Q => ∃ l k xs, x = .ref l ∧ y = .int k ∧ SqT K H l xs ∧ xs ≠ [] ∧ 1 ≤ k ∧ k ≤ 1000 ∧ xs.length ≤ 1000 ∧ (k = 1 → Q (.ref l) H) ∧ (k ≠ 1 → ∀ p (o : Obj), H p = none → o.dict = none → Q (.ref p) (upd H p (.frz o (.tup (List.replicate k.toNat xs).flatten))))
theorem op_repP : OpR X (binaryOp .Mult) (rRepP X.K) := by
  intro pins s σ H x y v u Q I rx ry h
  obtain ⟨l, k, xs, rfl, rfl, hT, hne, h1, h2, hz, q1, q⟩ := h
  cases rx
  obtain ⟨t, rfl⟩ := ry
  obtain ⟨its, r, ⟨⟨cls, dd, data, sl⟩, ho, hc, n, hd⟩, hs⟩ := I.tuple hT
  simp only at hc hd
  subst hc hd
  have hle : its.length = xs.length := r.length.symm
  have hn : its ≠ [] := fun e => hne (by
    rw [e] at hle
    exact List.eq_nil_of_length_eq_zero hle.symm)
  have hi : its.toArray.isEmpty = false := by
    cases its with
    | nil => exact absurd rfl hn
    | cons a b => rfl
  have hsz0 : its.toArray.size = xs.length := by rw [List.size_toArray, hle]
  have hm : ((its.toArray.size : Nat) : Int) * k ≤ 1000000 := by
    rw [hsz0]
    have a1 : ((xs.length : Nat) : Int) * k ≤ 1000 * k := Int.mul_le_mul_of_nonneg_right (by omega) (by omega)
    omega
  have flen : (List.replicate k.toNat its).flatten.length ≤ sizeLine := by
    rw [PyProof.Rows.lm_len_rep_flat, hle, sizeLine_eq]
    have a1 : k.toNat * xs.length ≤ 1000 * 1000 := Nat.mul_le_mul (by omega) hz
    omega
  by_cases hk1 : k = 1
  · subst hk1
    exact wpAny_binaryOp_repeat_ref (T := "tuple") (U := "int") (by decide) ⟨_, ho, rfl⟩ (fun s' => typeIs_int s' 1 t) noFill_tuple_mul PySem.F.fills_int_mul PySem.F.slot_int_rmul repeat_tuple PySem.F.slot_int_index.lookup
      (call_meets PySem.F.slot_int_rmul (typeIs_int s 1 t) PySem.F.entry_int_rmul (PySem.F.args_int_rmul_2 _ _) (int_rmul_tuple 1 t l its.toArray n dd sl)
        ⟨ho, rfl, ⟨_, ho, rfl⟩, call_meets PySem.F.slot_tuple_mul ⟨_, ho, rfl⟩ PySem.F.entry_tuple_mul (PySem.F.args_tuple_mul_2 _ _) (tuple_mul1 l its.toArray n dd sl t) ⟨ho, ⟨.ref l, H, I, rfl, q1 rfl⟩⟩⟩)
  have c0 : (decide (k < -(2 ^ 63)) || decide (k ≥ 2 ^ 63)) = false := by
    rw [decide_eq_false (by omega), decide_eq_false (by omega)] <;> rfl
  have c1 : (its.toArray.isEmpty || k == 1) = false := by
    rw [hi, Bool.false_or]
    exact beq_eq_false_iff_ne.mpr (by omega)
  have c2 : (decide (k ≤ 0) || its.toArray.isEmpty) = false := by
    rw [hi, Bool.or_false]
    exact decide_eq_false (by omega)
  have c4 : Builtin.Tuple.tupleTooMany (((its.toArray.size : Nat) : Int) * k) = false := by
    unfold Builtin.Tuple.tupleTooMany
    rw [sizeLine_eq]
    exact decide_eq_false (by omega)
  refine wpAny_binaryOp_repeat_ref (T := "tuple") (U := "int") (by decide) ⟨_, ho, rfl⟩ (fun s' => typeIs_int s' k t) noFill_tuple_mul PySem.F.fills_int_mul PySem.F.slot_int_rmul repeat_tuple PySem.F.slot_int_index.lookup
    (call_meets PySem.F.slot_int_rmul (typeIs_int s k t) PySem.F.entry_int_rmul (PySem.F.args_int_rmul_2 _ _) (int_rmul_tuple k t l its.toArray n dd sl)
      ⟨ho, rfl, ⟨_, ho, rfl⟩, call_meets PySem.F.slot_tuple_mul ⟨_, ho, rfl⟩ PySem.F.entry_tuple_mul (PySem.F.args_tuple_mul_2 _ _) (tuple_mulW l its.toArray n dd sl k t c0 c1 c2 (by omega) c4 (by rw [size_rep, List.size_toArray]; exact flen)) ⟨ho, ?_⟩⟩)
  rw [size_rep]
  exact ep_tup I (r.rep k.toNat) (by rw [PyProof.Rows.lm_len_rep_flat, sizeLine_eq]; have a1 : k.toNat * xs.length ≤ 1000 * 1000 := Nat.mul_le_mul (by omega) hz; omega) (q hk1)
theorem RzL.rep {K : PySem.W.Frag} {G : Hp} {vs : List V} {ds : List D} (r : RzL K T G vs ds) : ∀ n : Nat, RzL K T G (List.replicate n vs).flatten (List.replicate n ds).flatten
  | 0 => by simpa using RzL.nil
  | n + 1 => by
    rw [List.replicate_succ, List.replicate_succ, List.flatten_cons, List.flatten_cons]
    exact r.append (RzL.rep r n)
def mulA : D → D → Option D
  | .int i, .int j => mulI (.int i) (.int j)
  | .tup ds, .int k => if ds.isEmpty = false ∧ 1 ≤ k ∧ k ≤ 1000 ∧ ds.length ≤ 1000 then some (.tup (List.replicate k.toNat ds).flatten) else none
  | _, _ => none
def rMulA (K : PySem.W.Frag) : R2 := fun x y H Q => rI CMul (fun i j => .int (i * j)) x y H Q ∨ rRepP K x y H Q
theorem op_mulA : OpR X (binaryOp .Mult) (rMulA X.K) := op_mul.or op_repP
theorem snd_mulA {K : PySem.W.Frag} : Snd2 K T (rMulA K) mulA := by
  intro x y a b d G H Q s ra rb e q
  unfold mulA at e
  split at e
  · exact .inl (snd_mulI x y _ _ d G H Q s ra rb e q)
  · rename_i ds k
    by_cases hc : ds.isEmpty = false ∧ 1 ≤ k ∧ k ≤ 1000 ∧ ds.length ≤ 1000
    · rw [if_pos hc] at e; cases e
      obtain ⟨h0, h1, h2, h3⟩ := hc
      obtain ⟨p, xs, rfl, e2, e3⟩ := Rb.tup s ra
      refine .inr ⟨p, k, xs, rfl, rb.int, Same.tup s e2.t, fun z => ?_, h1, h2, by rw [e3.len]; exact h3, fun hk => ?_, fun hk p' o hp ho => ?_⟩
      · subst z
        have : ds = [] := by have := e3.len; simpa using this.symm
        subst this; cases h0
      · subst hk
        have e1 : (List.replicate (1 : Int).toNat ds).flatten = ds := by show (List.replicate 1 ds).flatten = ds; simp
        rw [e1] at q
        exact q _ G H (New.refl s) (Rz.tup_ e2 e3)
      · have n := New.one (T := T) (o := .frz o (.tup (List.replicate k.toNat xs).flatten)) s hp
        exact q _ _ _ n (Rz.tup_ (.inl ⟨o, upd_same, ho⟩) ((RzL.rep e3 k.toNat).mono n.gro))
    · rw [if_neg hc] at e; cases e
  · cases e
theorem de_mul {a b : Expr} {oa ob : DOn} (ha : DO X T W a oa) (hb : DO X T W b ob) : DE X T W (.BinOp a .Mult b pos) (d2 mulA oa ob) := de_op snd_mulA op_mulA ha hb
/-! ### sorted(set(t)), t a tuple of ints -/
def rSetTI (K : PySem.W.Frag) (w : World) : List V → Hp → VK → Prop := fun vs H Q => ∃ (p : Addr) (ns : List Int), vs = [.ref p] ∧ SqT K H p (ns.map V.int) ∧ ns.length ≤ 1000 ∧ ∀ a c, H a = none → c ≤ ns.length → Q (.ref a) (upd H a (SetO w a (fun j => decide (j ∈ ns)) c))
theorem call_setTI (hc : X.calm = true) : CallR X (.type "set") (rSetTI X.K X.w) := by
  intro pins s σ H vs us Q I r h
  obtain ⟨p, ns, rfl, hq, hl, q⟩ := h
  obtain ⟨its, rv, pt, hz⟩ := I.tuple hq
  rw [Vals.ref1 r]
  have hi : IntsAre its.toArray.toList ns := ints_of_vals rv
  refine call_set_tupI ns (I.ok.hd hc) (show s.heap.IsTuple p its.toArray from pt) hi (by unfold scanBound; omega) fun h' tk c R1 hcn k => ?_
  exact ⟨.ref s.heap.objs.size, upd H s.heap.objs.size (SetO X.w s.heap.objs.size (fun j => decide (j ∈ ns)) c), I.laid (t' := tk) k (Nat.le_refl _) (setO_new R1), rfl, q _ _ (I.hok.fresh (Nat.le_refl _)) hcn⟩
/-- put into a rising list, once -/
def insU (z : Int) : List Int → List Int
  | [] => [z]
  | y :: ys => if z < y then z :: y :: ys else if z = y then y :: ys else y :: insU z ys
def sortU : List Int → List Int
  | [] => []
  | y :: ys => insU y (sortU ys)
theorem mem_insU {z k : Int} : ∀ {l : List Int}, k ∈ insU z l ↔ k = z ∨ k ∈ l
  | [] => by simp [insU]
  | y :: ys => by
    unfold insU
    by_cases h : z < y
    · rw [if_pos h]; simp
    · rw [if_neg h]
      by_cases h2 : z = y
      · rw [if_pos h2]; subst h2; simp
      · rw [if_neg h2, List.mem_cons, mem_insU, List.mem_cons]
        constructor
        · rintro (h | h | h)
          · exact .inr (.inl h)
          · exact .inl h
          · exact .inr (.inr h)
        · rintro (h | h | h)
          · exact .inr (.inl h)
          · exact .inl h
          · exact .inr (.inr h)
theorem insU_sorted {z : Int} : ∀ {l : List Int}, l.Pairwise (· < ·) → (insU z l).Pairwise (· < ·)
  | [], _ => by simp [insU]
  | y :: ys, h => by
    unfold insU
    obtain ⟨h1, h2⟩ := List.pairwise_cons.mp h
    by_cases hz : z < y
    · rw [if_pos hz]
      refine List.pairwise_cons.mpr ⟨fun k hk => ?_, h⟩
      rcases List.mem_cons.mp hk with rfl | hk
      · exact hz
      · have := h1 k hk; omega
    · rw [if_neg hz]
      by_cases h3 : z = y
      · rw [if_pos h3]; exact h
      · rw [if_neg h3]
        refine List.pairwise_cons.mpr ⟨fun k hk => ?_, insU_sorted h2⟩
        rcases mem_insU.mp hk with rfl | hk
        · omega
        · exact h1 k hk
theorem mem_sortU {k : Int} : ∀ {l : List Int}, k ∈ sortU l ↔ k ∈ l
  | [] => Iff.rfl
  | y :: ys => by unfold sortU; rw [mem_insU, mem_sortU, List.mem_cons]
theorem sortU_sorted : ∀ (l : List Int), (sortU l).Pairwise (· < ·)
  | [] => List.Pairwise.nil
  | y :: ys => insU_sorted (sortU_sorted ys)
theorem rise_inj : ∀ {l m : List Int}, l.Pairwise (· < ·) → m.Pairwise (· < ·) → (∀ k, k ∈ l ↔ k ∈ m) → l = m
  | [], [], _, _, _ => rfl
  | [], y :: m, _, _, h => by have := (h y).mpr List.mem_cons_self; cases this
  | y :: l, [], _, _, h => by have := (h y).mp List.mem_cons_self; cases this
  | y :: l, z :: m, h1, h2, h => by
    obtain ⟨a1, a2⟩ := List.pairwise_cons.mp h1
    obtain ⟨b1, b2⟩ := List.pairwise_cons.mp h2
    have e : y = z := by
      have hy := (h y).mp List.mem_cons_self
      have hz := (h z).mpr List.mem_cons_self
      rcases List.mem_cons.mp hy with hy | hy
      · exact hy
      · rcases List.mem_cons.mp hz with hz | hz
        · exact hz.symm
        · have := b1 y hy; have := a1 z hz; omega
    subst e
    rw [rise_inj a2 b2 fun k => ?_]
    have hk := h k
    rw [List.mem_cons, List.mem_cons] at hk
    constructor
    · intro hm
      rcases hk.mp (.inr hm) with e | e
      · subst e; have := a1 k hm; omega
      · exact e
    · intro hm
      rcases hk.mpr (.inr hm) with e | e
      · subst e; have := b1 k hm; omega
      · exact e
def sosD : D → Option D
  | .tup ds => (intsD ds).bind fun ns => if ns.length < 64 then some (.lst ((sortU ns).map .int)) else none
  | _ => none
def dSos (d : DEn) : DEn := fun ρ => (d ρ).bind fun p => match sosD p.2 with
  | some e => .ok (p.1, e)
  | none => .bad
theorem de_sos {e : Expr} {d : DEn} {p p2 pos2 : Pos} (hc : X.calm = true) (h : DE X T W e d) (hm : X.mg "sorted" = none) (hm2 : X.mg "set" = none) (hg : Gl X "sorted" := by rfl) (hg2 : Gl X "set" := by rfl)
    (he : starEach [e] X.env = (false, eval e X.env) :: starEach [] X.env := by rfl)
    (he2 : starEach [.Call (.Name "set" p2) [e] [] pos2] X.env = (false, eval (.Call (.Name "set" p2) [e] [] pos2) X.env) :: starEach [] X.env := by rfl)
    (hpl : (backTo pos2 (starEach [] X.env)).any (·.1) = false := by rfl) (hpl2 : (backTo pos (starEach [] X.env)).any (·.1) = false := by rfl) :
    DE X T W (.Call (.Name "sorted" p) [.Call (.Name "set" p2) [e] [] pos2] [] pos) (dSos d) := by
  refine PE.imp (pe_callB (cr_sortedSet hc) hg hm PyProof.Rows.boot_sorted (pa_cons (pe_callTy (call_setTI hc) hg2 hm2 PyProof.Rows.boot_set (pa_cons h pa_nil he) (by decide) (by decide) he hpl) pa_nil he2) (by decide) (by decide) he2 hpl2) fun σ H Q q => ?_
  obtain ⟨τ, ρ, G, k, q⟩ := q
  refine ⟨τ, ρ, G, k, (Out.bind q).imp fun ρ1 r G1 H1 k1 fr1 q1 v rv => ?_⟩
  dsimp only at q1
  cases e1 : sosD r with
  | none => rw [e1] at q1; exact q1.elim
  | some d' =>
    rw [e1] at q1
    cases r with
    | tup ds =>
      obtain ⟨ns, h1, h2⟩ := two_some (show (intsD ds).bind _ = some d' from e1)
      by_cases hl : ns.length < 64
      · rw [if_pos hl] at h2; cases h2
        rw [Rz] at rv
        obtain ⟨a, xs, rfl, h3, h4⟩ := rv
        have := ints_rz h4 h1
        subst this
        refine ⟨a, ns, rfl, Same.tup k1.sub h3.t, by omega, fun b c hb hcn => ?_⟩
        refine ⟨b, (fun j => decide (j ∈ ns)), c, rfl, upd_same, by omega, fun out l ho1 ho2 ho3 hl2 => ?_⟩
        have e2 : out = sortU ns := rise_inj ho1 (sortU_sorted ns) fun z => by rw [ho2, mem_sortU, decide_eq_true_iff]
        subst e2
        have n1 := New.loose (T := T) (o := SetO X.w b (fun j => decide (j ∈ ns)) c) k1.sub hb
        have n2 := New.one (T := T) (o := HO.lst ((sortU ns).map V.int)) n1.sub hl2
        have n := n1.trans n2
        exact q1 _ _ (k1.new n) n.fr _ (Rz.lst_ upd_same (rz_ints _))
      · rw [if_neg hl] at h2; cases h2
    | _ => cases e1
end
end Zd
end
section
/-! Zd 17: isinstance. -/
namespace Zd
open PySem PySem.Spec PyProof.Rows L2
set_option autoImplicit false
def tyN : D → Option String
  | .non => some "NoneType"
  | .bl _ => some "bool"
  | .int _ => some "int"
  | .str _ => some "str"
  | .tup _ => some "tuple"
  | .lst _ => some "list"
  | .frz _ => some "list"
  | .ins _ _ => none
  | .dct _ _ => none
def isN (t n : String) : Bool := t == n || (t == "bool" && n == "int")
def KitN (n : String) : Prop := ∀ (K : PySem.W.Frag) (t : String), t ∈ ["NoneType", "bool", "int", "str", "tuple", "list"] → PySem.W.kitOne K (.type t) (.type n) = some (isN t n)
theorem kit_int : KitN "int" := fun K t h => by
  simp only [List.mem_cons, List.mem_nil_iff, or_false] at h
  rcases h with rfl | rfl | rfl | rfl | rfl | rfl
  all_goals kernel_rfl
theorem kit_bool : KitN "bool" := fun K t h => by
  simp only [List.mem_cons, List.mem_nil_iff, or_false] at h
  rcases h with rfl | rfl | rfl | rfl | rfl | rfl
  all_goals kernel_rfl
theorem kit_str : KitN "str" := fun K t h => by
  simp only [List.mem_cons, List.mem_nil_iff, or_false] at h
  rcases h with rfl | rfl | rfl | rfl | rfl | rfl
  all_goals kernel_rfl
theorem kit_tuple : KitN "tuple" := fun K t h => by
  simp only [List.mem_cons, List.mem_nil_iff, or_false] at h
  rcases h with rfl | rfl | rfl | rfl | rfl | rfl
  all_goals kernel_rfl
theorem kit_list : KitN "list" := fun K t h => by
  simp only [List.mem_cons, List.mem_nil_iff, or_false] at h
  rcases h with rfl | rfl | rfl | rfl | rfl | rfl
  all_goals kernel_rfl
theorem tyN_mem {d : D} {t : String} (h : tyN d = some t) : t ∈ ["NoneType", "bool", "int", "str", "tuple", "list"] := by
  cases d <;> first | (cases h; simp) | cases h
section
variable {X : Cx} {T : Tab} {W : WX} {pos : Pos}
theorem tyX_of {K : PySem.W.Frag} {G H : Hp} {v : V} {d : D} {t : String} (s : Same G H) (r : Rb K T G H v d) (e : tyN d = some t) : TyX K H v (.type t) := by
  cases d with
  | non => cases e; rw [r.non]; exact .base .non
  | bl b => cases e; rw [r.bl]; exact .base (.bl b)
  | int i => cases e; rw [r.int]; exact .base (.int i)
  | str z => cases e; rw [r.str]; exact .base (.str z)
  | tup ds =>
    cases e
    obtain ⟨a, xs, rfl, h1, h2⟩ := Rb.tup s r
    rcases Same.tupP s h1 with ⟨o, h, _⟩ | ⟨o, its, n, h, _, hc, _⟩
    · exact .fTuple h
    · exact .kTuple h hc
  | lst ds =>
    cases e
    obtain ⟨a, xs, rfl, h1, h2⟩ := Rb.lst s r
    exact .base (.lst h1)
  | frz ds =>
    cases e
    obtain ⟨a, xs, rfl, h1, h2⟩ := Rb.frz s r
    rcases h1 with (h | ⟨o, h⟩) | ⟨o, its, n, h, hc, _⟩
    · exact .base (.lst h)
    · exact .base (.frz h)
    · exact .kList h hc
  | ins c ds => cases e
  | dct ks ds => cases e
/-- isinstance(e, n), n a built-in type -/
def dIsi (n : String) (o : DOn) : DEn := fun ρ => (o ρ).bind fun p => match (res p.1 p.2).bind tyN with
  | some t => .ok (p.1, .bl (isN t n))
  | none => .bad
theorem de_isi {x : Str} {n : String} {e : Expr} {oo : DOn} {p p2 : Pos} (hk : KitN n) (h : DO X T W e oo) (hm : X.mg "isinstance" = none) (hm2 : X.mg x = none) (hv : bootBuiltins x = some (.type n)) (hg : Gl X "isinstance" := by rfl) (hg2 : Gl X x := by rfl)
    (hn : x ≠ "__name__" := by decide) (hdb : (x == ("__debug__" : Str)) = false := by decide)
    (he : starEach [e, .Name x p2] X.env = (false, eval e X.env) :: starEach [.Name x p2] X.env := by rfl) (he2 : starEach [.Name x p2] X.env = (false, eval (.Name x p2) X.env) :: starEach [] X.env := by rfl)
    (hpl : (backTo pos (starEach [.Name x p2] X.env)).any (·.1) = false := by rfl) : DE X T W (.Call (.Name "isinstance" p) [e, .Name x p2] [] pos) (dIsi n oo) := by
  refine PE.imp (pe_callB call_isi hg hm PyProof.Rows.boot_isinstance (pa_cons h (pa_cons (pe_bltn (v := V.ty n) hg2 hm2 hv rfl hn hdb) pa_nil he2) he) (by decide) (by decide) he hpl) fun σ H Q q => ?_
  obtain ⟨τ, ρ, G, k, q⟩ := q
  refine ⟨τ, ρ, G, k, (Out.bind q).imp fun ρ1 op G1 H1 k1 fr1 q1 v rv fv => ?_⟩
  dsimp only at q1
  cases e1 : (res ρ1 op).bind tyN with
  | none => rw [e1] at q1; exact q1.elim
  | some t =>
    rw [e1] at q1
    obtain ⟨d, h1, h2⟩ := two_some e1
    exact ⟨v, .ty n, .type t, .type n, isN t n, rfl, .ty n, tyX_of k1.sub (k1.resolve rv h1) h2, hk X.K t (tyN_mem h2), q1 G1 H1 k1 Fr.refl _ Rz.bl_⟩
/-- isinstance(e, (n, m)) -/
def dIsi2 (n m : String) (o : DOn) : DEn := fun ρ => (o ρ).bind fun p => match (res p.1 p.2).bind tyN with
  | some t => .ok (p.1, .bl (isN t n || isN t m))
  | none => .bad
theorem kitAny2 {n m t : String} {K : PySem.W.Frag} (hk : KitN n) (hk2 : KitN m) (h : t ∈ ["NoneType", "bool", "int", "str", "tuple", "list"]) : PySem.W.kitAny K (.type t) [.type n, .type m] = some (isN t n || isN t m) := by
  unfold PySem.W.kitAny PySem.W.kitAny PySem.W.kitAny
  rw [hk K t h, hk2 K t h]
  cases isN t n <;> cases isN t m <;> rfl
theorem de_isi2 {x y : Str} {n m : String} {e : Expr} {oo : DOn} {p p2 p3 pt : Pos} {kt : Nat} (hk : KitN n) (hk2 : KitN m) (h : DO X T W e oo) (hm : X.mg "isinstance" = none) (hm2 : X.mg x = none) (hv : bootBuiltins x = some (.type n)) (hm3 : X.mg y = none) (hv3 : bootBuiltins y = some (.type m)) (hg : Gl X "isinstance" := by rfl) (hg2 : Gl X x := by rfl) (hg3 : Gl X y := by rfl)
    (hn : x ≠ "__name__" := by decide) (hdb : (x == ("__debug__" : Str)) = false := by decide) (hn3 : y ≠ "__name__" := by decide) (hdb3 : (y == ("__debug__" : Str)) = false := by decide)
    (he : starEach [e, .Tuple [.Name x p2, .Name y p3] kt pt] X.env = (false, eval e X.env) :: starEach [.Tuple [.Name x p2, .Name y p3] kt pt] X.env := by rfl) (he2 : starEach [.Tuple [.Name x p2, .Name y p3] kt pt] X.env = (false, eval (.Tuple [.Name x p2, .Name y p3] kt pt) X.env) :: starEach [] X.env := by rfl)
    (he3 : starEach [.Name x p2, .Name y p3] X.env = (false, eval (.Name x p2) X.env) :: starEach [.Name y p3] X.env := by rfl) (he4 : starEach [.Name y p3] X.env = (false, eval (.Name y p3) X.env) :: starEach [] X.env := by rfl)
    (hpl : (backTo pos (starEach [.Tuple [.Name x p2, .Name y p3] kt pt] X.env)).any (·.1) = false := by rfl) : DE X T W (.Call (.Name "isinstance" p) [e, .Tuple [.Name x p2, .Name y p3] kt pt] [] pos) (dIsi2 n m oo) := by
  refine PE.imp (pe_callB call_isiT hg hm PyProof.Rows.boot_isinstance (pa_cons h (pa_cons (pe_tup (pa_cons (pe_bltn (v := V.ty n) hg2 hm2 hv rfl hn hdb) (pa_cons (pe_bltn (v := V.ty m) hg3 hm3 hv3 rfl hn3 hdb3) pa_nil he4) he3)) pa_nil he2) he) (by decide) (by decide) he hpl) fun σ H Q q => ?_
  obtain ⟨τ, ρ, G, k, q⟩ := q
  refine ⟨τ, ρ, G, k, (Out.bind q).imp fun ρ1 op G1 H1 k1 fr1 q1 v rv fv => ?_⟩
  dsimp only at q1
  cases e1 : (res ρ1 op).bind tyN with
  | none => rw [e1] at q1; exact q1.elim
  | some t =>
    rw [e1] at q1
    obtain ⟨d, h1, h2⟩ := two_some e1
    refine ⟨by show 2 ≤ sizeLine; rw [sizeLine_eq]; omega, fun tp htp => ?_⟩
    have n1 := New.one (T := T) (o := HO.tup [V.ty n, V.ty m]) k1.sub htp
    have rb := k1.resolve rv h1
    have rb2 : Rb X.K T _ _ v d := (k1.new n1).resolve (rv.fr n1.fr) h1
    exact ⟨v, tp, [.ty n, .ty m], .type t, [.type n, .type m], isN t n || isN t m, rfl, upd_same, .cons (.ty n) (.cons (.ty m) .nil), tyX_of n1.sub rb2 h2, kitAny2 hk hk2 (tyN_mem h2), q1 _ _ (k1.new n1) n1.fr _ Rz.bl_⟩
/-- isinstance(e, C), an own class, of an instance -/
structure IsC (K : PySem.W.Frag) (T : Tab) (c c' : Nat) (b : Bool) : Prop where
  cls : Cls K (T.cls c)
  at_ : PySem.W.findIn K (.ref (T.cls c)) "__class__" = some (some (.builtin "object.__class__"))
  get : PySem.W.specialIn K (.builtin "object.__class__") "__get__" = some (some (.builtin "getset_descriptor.__get__"))
  tk : PySem.W.takesIn K (.builtin "object.__class__") = some true
  top : PySem.W.mroIn K (T.cls c) (.type "object") = some true
  kit : PySem.W.kitOne K (.ref (T.cls c)) (.ref (T.cls c')) = some b
def dIsC (f : Nat → Option Bool) (o : DOn) : DEn := fun ρ => (o ρ).bind fun p => match res p.1 p.2 with
  | some (.ins c _) => (match f c with
    | some b => .ok (p.1, .bl b)
    | none => .bad)
  | _ => .bad
theorem de_isc {x : Str} {c' : Nat} {f : Nat → Option Bool} {e : Expr} {oo : DOn} {p p2 : Pos} (hk : ∀ c b, f c = some b → IsC X.K T c c' b) (h : DO X T W e oo) (hm : X.mg "isinstance" = none) (hm2 : X.mg x = some (.ref (T.cls c'))) (hg : Gl X "isinstance" := by rfl) (hg2 : Gl X x := by rfl)
    (hdb : (x == ("__debug__" : Str)) = false := by decide)
    (he : starEach [e, .Name x p2] X.env = (false, eval e X.env) :: starEach [.Name x p2] X.env := by rfl) (he2 : starEach [.Name x p2] X.env = (false, eval (.Name x p2) X.env) :: starEach [] X.env := by rfl)
    (hpl : (backTo pos (starEach [.Name x p2] X.env)).any (·.1) = false := by rfl) : DE X T W (.Call (.Name "isinstance" p) [e, .Name x p2] [] pos) (dIsC f oo) := by
  refine PE.imp (pe_callB call_isi hg hm PyProof.Rows.boot_isinstance (pa_cons h (pa_cons (pe_glob (v := V.ref (T.cls c')) hg2 hm2 rfl hdb) pa_nil he2) he) (by decide) (by decide) he hpl) fun σ H Q q => ?_
  obtain ⟨τ, ρ, G, k, q⟩ := q
  refine ⟨τ, ρ, G, k, (Out.bind q).imp fun ρ1 op G1 H1 k1 fr1 q1 v rv fv => ?_⟩
  dsimp only at q1
  split at q1
  · rename_i c xs h1
    cases hf : f c with
    | none => rw [hf] at q1; exact q1.elim
    | some b =>
      rw [hf] at q1
      obtain ⟨a, dx, fs, rfl, e2, e3, e4⟩ := Rb.ins k1.sub (k1.resolve rv h1)
      have o := hk c b hf
      exact ⟨.ref a, .ref (T.cls c'), .ref (T.cls c), .ref (T.cls c'), b, rfl, .own _, .base (.ins e2 o.cls o.at_ o.get o.tk o.top), o.kit, q1 G1 H1 k1 Fr.refl _ Rz.bl_⟩
  · exact q1.elim
end
end Zd
end
section
/-! Zd 18: what the printed texts lean on. -/
namespace Zd
open PySem PySem.Spec PyProof.Rows L2
set_option autoImplicit false
section
variable {X : Cx} {T : Tab} {W : WX} {pos : Pos}
theorem di_range3 {tg a b c : Expr} {da : DAn} {p : Pos} (ha : DA X T W [a, b, c] da) (hm : X.mg "range" = none) (hg : Gl X "range" := by rfl)
    (hs : starEach [a, b, c] X.env = (false, eval a X.env) :: starEach [b, c] X.env := by rfl) (hpl : (backTo pos (starEach [b, c] X.env)).any (·.1) = false := by rfl) :
    DI X T W tg (.Call (.Name "range" p) [a, b, c] [] pos) (iRes rng3 da) := by
  refine PI.imp (pi_range3 hg hm ha hs hpl) fun σ H Q q => ?_
  obtain ⟨τ, ρ, G, k, q⟩ := iRes_of q
  refine ⟨τ, ρ, G, k, q.imp fun ρ1 ops G1 H1 k1 fr1 q1 vs rvs fvs => ?_⟩
  obtain ⟨G2, ds, items, s, rb, e, q2⟩ := q1 vs rvs fvs
  unfold rng3 at e
  split at e
  · rename_i i j c
    obtain ⟨v, w, u, rfl, r, r2, r3⟩ := rb.three
    split at e
    · rename_i hc
      cases e
      obtain ⟨c0, c1, c2, c3⟩ := hc
      exact ⟨i, j, c, _, by rw [r.int, r2.int, r3.int], ⟨c0, c1, c2, c3⟩, q2 _ walks_rangeC⟩
    · cases e
  · cases e
end
structure FnAll (P : Program) (w : World) (K : PySem.W.Frag) (mg : Str → Option Value) (base : Heap) (T : Tab) (k : Nat) (f : Addr) (ps : List Str) (n : Nat) (F : CF) : Prop where
  ex : ∃ fd, FnOk P w K mg base (L2.CX P w) k f fd ps (spOf K T n F) ∧ Binds K fd ps [] ∧ PySem.W.keepIn K (.ref f) = true
  bad : ∀ bs, bs.length ≠ n → F bs = .bad
theorem fnAll {P : Program} {w : World} {K : PySem.W.Frag} {mg : Str → Option Value} {base : Heap} {T : Tab} {x qual : Str} {params : Arguments} {body : List Stmt} {scope : Scope} {f : Addr} {N ps : List Str} {k : Nat} {d : DSn}
    (F : ∃ fd, FunD K x qual params body scope [] [] f fd) (S : FnScope N ps scope)
    (hb : ∀ (kV doc pm : Value) (an : Option Addr) (cdv ct : Value) (us : List Value), us.length = ps.length → bindArgs (PySem.W.fnOf x qual params body scope .none kV doc pm an cdv ct) ⟨us, []⟩ = pure (ps.zip us))
    (hbody : ∀ (cdv : Value) (A : Around) (outer : List PySem.Env) (s : Shared) (H : Hp) (E : XK), Room k (A.deeper (envOfC qual scope s.heap.objs.size f cdv)) →
      DSs (cxOf (L2.CX P w) P w K mg base N qual scope f cdv A outer s H E) T (WB E) body d) : FnAll P w K mg base T (k + 1) f ps ps.length (cfOf N.length ps.length d) := by
  obtain ⟨fd, F⟩ := F
  exact ⟨⟨fd, fn_spec F S hbody, F.bindsN hb, F.kp⟩, fun bs h => cfOf_bad bs h⟩
section
variable {X : Cx} {T : Tab} {k k' n c : Nat} {f : Addr} {ps : List Str} {F : CF} {E : XK}
theorem FnAll.fok (h : FnAll X.prog X.w X.K X.mg X.base T k f ps n F) (hr : Room k' X.A) (hk : k ≤ k' := by decide) : FOk X T E f n F := by
  obtain ⟨⟨fd, h1, h2, h3⟩, h4⟩ := h
  exact ⟨⟨fd, ps, k, h1, hr.mono hk, h2, h3⟩, h4⟩
theorem FnAll.kok (h : FnAll X.prog X.w X.K X.mg X.base T k f ps n F) (M : Mk X.K (T.cls c) f) (hr : Room k' X.A) (hk : k + 1 ≤ k' := by decide) : KOk X T c n F := by
  obtain ⟨⟨fd, h1, h2, h3⟩, h4⟩ := h
  exact ⟨⟨f, fd, ps, k, M, h1, hr.mono hk, h2⟩, h4⟩
/-- a method, ready -/
structure MRow (X : Cx) (T : Tab) (m : Str) (n : Nat) (k' : Nat) (c : Nat) (F : CF) : Prop where
  ex : ∃ (f : Addr) (ps : List Str) (k : Nat), k ≤ k' ∧ FnAll X.prog X.w X.K X.mg X.base T k f ps n F ∧ Cls X.K (T.cls c) ∧ Meth X.K (T.cls c) m f ∧ m ∉ T.lay c
theorem FnAll.mrow {m : Str} (h : FnAll X.prog X.w X.K X.mg X.base T k f ps n F) (cl : Cls X.K (T.cls c)) (mt : Meth X.K (T.cls c) m f) (hl : m ∉ T.lay c := by decide) (hk : k ≤ k' := by decide) : MRow X T m n k' c F := ⟨⟨f, ps, k, hk, h, cl, mt, hl⟩⟩
theorem mok_of {m : Str} {M : Nat → Option CF} (hr : Room k' X.A) (h : ∀ c F, M c = some F → MRow X T m n k' c F) (hs : ∃ c F, M c = some F) : MOk X T m (fun _ => n) M := by
  refine ⟨fun c F e => ?_, hs⟩
  obtain ⟨f, ps, k, hk, ⟨⟨fd, h1, h2, h3⟩, h4⟩, cl, mt, hl⟩ := (h c F e).ex
  exact ⟨cl, hl, h4, f, fd, ps, k, mt, h1, hr.mono hk, h2⟩
theorem bok_of {M : Nat → Option CF} {A' : Around} (hr : Room k' A') (h : ∀ c F, M c = some F → MRow X T "__bool__" 1 k' c F) : BOk X T A' M := by
  refine ⟨fun c F e => ?_⟩
  obtain ⟨f, ps, k, hk, ⟨⟨fd, h1, h2, h3⟩, h4⟩, cl, mt, hl⟩ := (h c F e).ex
  exact ⟨h4, f, fd, ps, k, mt.at_, mt.fn, h1, hr.mono hk, h2⟩
theorem room_in {A : Around} (hr : Room (k + 2) A) : Room k A.in1.in1 := hr.in1.in1
theorem u65 {A : Around} (hr : Room k A) : A.units + 65 < cLine := by have := hr.un; omega
end
section
variable {P : Program} {w : World} {K : PySem.W.Frag} {mg : Str → Option Value} {base : Heap} {N : List Str} {qual : Str} {scope : Scope} {f : Addr} {cd : Value} {A : Around} {outer : List PySem.Env} {s : Shared} {H : Hp} {E : XK}
theorem px_cx : Psx (cxOf (L2.CX P w) P w K mg base N qual scope f cd A outer s H E) (WB E) E := psx_of (takes_of rfl rfl rfl rfl)
theorem hp_cx : PassesOwn (model P w) (cxOf (L2.CX P w) P w K mg base N qual scope f cd A outer s H E).A (cxOf (L2.CX P w) P w K mg base N qual scope f cd A outer s H E).env (cxOf (L2.CX P w) P w K mg base N qual scope f cd A outer s H E).xe := passes_of rfl
end
end Zd
end
section
/-! Zd 19: the end; what the head tells beyond He's facts. -/
namespace Zd
open PySem PySem.Spec PyProof.Rows L2
set_option autoImplicit false
theorem walk_w {l : PySem.W.OpenLaw} {n k : Nat} {q : Program} {loose : List Str} {XP : (Str → Option Value) → Heap → Prop} {YP : World → Heap → Prop} {d : DefRec} {x : Str} {CX : World → CXT}
    (hn : l.most = some n) (hn2 : n ≤ sizeLine) (hdf : d.params.defaults = []) (hr : Room k callerA)
    (hCX : ∀ (w : World) (H : Hp) (s : Shared) (e : Value) (s' : Shared), CX w [] H s (fun _ _ _ => False) e s' → False)
    (F : ∀ (w : World) (mg : Str → Option Value) (fa : Addr) (h : Heap), YP w h → h.Ns mainGlobals mg → mg d.name = some (.ref fa) →
      ∃ (K : PySem.W.Frag) (fd : FuncData) (sp : Sp), K.In h ∧ (∀ (s : Shared) (u : Value), BindsTo s fd ⟨[u], []⟩ [(x, u)]) ∧
        (∀ (H : Hp) (a : Addr) (ns : List Int), ns.length ≤ n → SqL K H a (ns.map V.int) → sp [.ref a] H (fun v _ => v = .bl true) fun _ _ _ => False) ∧
        ∀ base : Heap, K.In base → base.Ns mainGlobals mg → FnOk l.prog w K mg base (CX w) k fa fd [x] sp) :
    PySem.W.WalkO q loose XP YP l.row.toRowW d [] (fun f vs => PySem.call f vs) := by
  refine Att.attach_call hn hdf fun w s₀ s₁ mg mb fa o pm cd doc a vs ns Gg Yy h1 h2 h3 h4 h5 h6 h7 h8 => ?_
  obtain ⟨K, fd, sp, KX, hb, hsp, hF⟩ := F w mg fa _ Yy Gg.T.g h4
  refine law_call KX Gg.T.g Gg.T.b Gg.T.builtins Gg.T.nolimit h8 h5 h6 (Nat.le_trans h7 hn2) hr hF hb (fun H _ hS => hsp H a ns h7 hS) ?_
  exact fun H e s' => hCX w H s₁ e s'
theorem cx_out {P : Program} {w : World} (H : Hp) (s : Shared) (e : Value) (s' : Shared) (c : L2.CX P w [] H s (fun _ _ _ => False) e s') : False := by
  obtain ⟨_, _, _, _, _, _, _, _, _, _, _, _, z⟩ := c
  exact z
/-- without the tables -/
def noT (H : Hp) : Hp := fun b => match H b with
  | some (.tbl _) => none
  | o => o
theorem noT_same {H : Hp} : Same (noT H) H := fun b o e => by
  unfold noT at e
  split at e
  · cases e
  · exact e
theorem noT_no {H : Hp} (b : Addr) (ps : Array Value) : noT H b ≠ some (.tbl ps) := fun e => by
  have h := noT_same b _ e
  unfold noT at e
  rw [h] at e
  cases e
theorem noT_at {H : Hp} {b : Addr} {o : HO} (h : H b = some o) (nt : NT o) : noT H b = some o := by
  unfold noT
  rw [h]
  cases o <;> first | rfl | exact absurd rfl (nt _)
theorem noT_sq {K : PySem.W.Frag} {H : Hp} {a : Addr} {xs : List V} (h : SqL K H a xs) : SqL K (noT H) a xs := by
  rcases h with (h | ⟨o, h⟩) | h
  · exact .inl (.inl (noT_at h nt_lst))
  · exact .inl (.inr ⟨o, noT_at h fun _ z => nomatch z⟩)
  · exact .inr h
/-- the law's promise from its reading -/
theorem sp_law {K : PySem.W.Frag} {T : Tab} {F : CF} {H : Hp} {a : Addr} {ns : List Int} (tb : LamX.Tabs T.tabs H) (hS : SqL K H a (ns.map V.int)) (h : ∃ outs, F [.val (.frz (ns.map D.int))] = .ok outs (.bl true)) :
    spOf K T 1 F [.ref a] H (fun v _ => v = .bl true) fun _ _ _ => False := by
  obtain ⟨outs, h⟩ := h
  refine ⟨rfl, noT H, [.val (.frz (ns.map D.int))], ⟨tb, noT_no⟩, noT_same, ⟨?_, trivial⟩, fun i j t u o p b e => ?_, ?_⟩
  · show Rz K T (noT H) (.ref a) (.frz (ns.map D.int))
    rw [Rz]
    exact ⟨a, ns.map V.int, rfl, noT_sq hS, rz_ints ns⟩
  · cases i <;> simp at e
  · rw [h]
    intro v G' H' r rz
    rw [Rz] at rz
    exact rz
/-! ### further facts -/
open He
def mk0B (x : Str) (K : PySem.W.Frag) : Bool := PySem.W.makesIn K (ga K x) && (eqO (PySem.W.findIn K (.ref (ga K x)) "__init__") (some (some (.builtin "object.__init__"))) && (decide (PySem.W.mroIn K (ga K x) (.type "object") = some true) && PySem.W.keepIn K (.ref (ga K x))))
theorem mk0_ok {x : Str} {K : PySem.W.Frag} (h : mk0B x K = true) : Mk00 K (ga K x) := by
  obtain ⟨h1, h⟩ := ba h
  obtain ⟨h2, h⟩ := ba h
  obtain ⟨h3, h4⟩ := ba h
  exact ⟨h1, eqO_ok h2, of_decide_eq_true h3, h4⟩
def iscB (x y : Str) (b : Bool) (K : PySem.W.Frag) : Bool := eqO (PySem.W.findIn K (.ref (ga K x)) "__class__") (some (some (.builtin "object.__class__"))) && (eqO (PySem.W.specialIn K (.builtin "object.__class__") "__get__") (some (some (.builtin "getset_descriptor.__get__"))) &&
  (decide (PySem.W.takesIn K (.builtin "object.__class__") = some true) && (decide (PySem.W.mroIn K (ga K x) (.type "object") = some true) && decide (PySem.W.kitOne K (.ref (ga K x)) (.ref (ga K y)) = some b))))
theorem isc_ok {T : Tab} {c c' : Nat} {x y : Str} {b : Bool} {K : PySem.W.Frag} (cl : Cls K (ga K x)) (h : iscB x y b K = true) (e1 : T.cls c = ga K x := by rfl) (e2 : T.cls c' = ga K y := by rfl) : IsC K T c c' b := by
  obtain ⟨h1, h⟩ := ba h
  obtain ⟨h2, h⟩ := ba h
  obtain ⟨h3, h⟩ := ba h
  obtain ⟨h4, h5⟩ := ba h
  exact ⟨by rw [e1]; exact cl, by rw [e1]; exact eqO_ok h1, eqO_ok h2, of_decide_eq_true h3, by rw [e1]; exact of_decide_eq_true h4, by rw [e1, e2]; exact of_decide_eq_true h5⟩
def dvD : D → Dv
  | .bl b => .bl b
  | .int i => .int i
  | .str s => .str s
  | _ => .non
def plainD : D → Bool
  | .non => true
  | .bl _ => true
  | .int _ => true
  | .str _ => true
  | _ => false
def tupZB (x : Str) (ds : List D) (K : PySem.W.Frag) : Bool := ds.all plainD && (match K.lookup (ga K x) with
  | some ⟨.type c, none, .seq its _, _⟩ => decide (c = "tuple") && (decide (its.size ≤ sizeLine) && relAll (ds.map fun d => (dvD d).v K) its.toList)
  | _ => false)
theorem rz_plain {K : PySem.W.Frag} {T : Tab} {G : Hp} : ∀ {ds : List D}, ds.all plainD = true → RzL K T G (ds.map fun d => (dvD d).v K) ds
  | [], _ => RzL.nil
  | d :: ds, h => by
    rw [List.all_cons, Bool.and_eq_true] at h
    refine RzL.cons ?_ (rz_plain h.2)
    cases d with
    | non => exact Rz.non_
    | bl b => exact Rz.bl_
    | int i => exact Rz.int_
    | str z => exact Rz.str_
    | _ => exact absurd h.1 (by simp [plainD])
theorem tupZ_ok {T : Tab} {x : Str} {ds : List D} {K : PySem.W.Frag} (h : tupZB x ds K = true) (G : Hp) : Rz K T G (.ref (ga K x)) (.tup ds) := by
  obtain ⟨hp, h⟩ := ba h
  cases q : K.lookup (ga K x) with
  | none => rw [q] at h; cases h
  | some o =>
    obtain ⟨oc, od, dt, osl⟩ := o
    rw [q] at h
    cases oc with
    | type c =>
      cases od with
      | none =>
        cases dt with
        | seq its n =>
          obtain ⟨h1, h2⟩ := ba (show (decide (c = "tuple") && (decide (its.size ≤ sizeLine) && relAll (ds.map fun d => (dvD d).v K) its.toList)) = true from h)
          obtain ⟨h3, h4⟩ := ba h2
          exact Rz.tup_ (.inr ⟨_, its, n, q, rfl, congrArg Value.type (of_decide_eq_true h1), rfl, of_decide_eq_true h3, relAll_ok h4⟩) (rz_plain hp)
        | _ => cases h
      | some a => cases dt <;> cases h
    | _ => cases od <;> cases dt <;> cases h
theorem ex_at {L : List (PySem.W.Frag → Bool)} {K : PySem.W.Frag} (c : (L.all fun f => f K) = true) (i : Nat) {f : PySem.W.Frag → Bool} (h : L[i]? = some f) : f K = true := List.all_eq_true.mp c f (List.mem_of_getElem? h)
end Zd
end
section
/-! Zd 20: raise of an own exception class with an own __init__ that stores its arguments. -/
namespace Zd
open PySem PySem.Spec PyProof.Rows L2
set_option autoImplicit false
def oexB (K : PySem.W.Frag) (C : Addr) : Bool := (match K.lookup C with
  | some ⟨.type t, _, .cls cd, sl⟩ => t == "type" && (match cd.mro, sl.toList with
    | .ref C' :: bm, [_, _, _, _, some (.builtin n), _] => C' == C && n == "ValueError.__new__" && !cd.hasDel && cd.hasDict && PySem.HandSPX.refsVE bm
    | _, _ => false)
  | _ => false) && (He.eqO (PySem.W.findIn K (.ref C) "__setattr__") (some (some (.builtin "object.__setattr__"))) && (decide (PySem.W.subIn K (.ref C) (.type "BaseException") = some true) && (decide (PySem.W.typeIn K (.ref C) = some (.type "type")) && PySem.W.keepIn K (.ref C))))
theorem oexB_ok {K : PySem.W.Frag} {C : Addr} (h : oexB K C = true) : OexC K C := by
  obtain ⟨h1, h⟩ := He.ba h
  obtain ⟨h2, h⟩ := He.ba h
  obtain ⟨h3, h⟩ := He.ba h
  obtain ⟨h4, h5⟩ := He.ba h
  refine ⟨?_, He.eqO_ok h2, of_decide_eq_true h3, of_decide_eq_true h4, h5⟩
  split at h1
  · rename_i t dd cd sl ho
    obtain ⟨ht, h1⟩ := He.ba h1
    obtain rfl : t = "type" := beq_iff_eq.mp ht
    split at h1
    · rename_i C' bm k0 k1 k2 k3 n k5 hm hs
      obtain ⟨_, h1⟩ := He.ba h1
      simp only [Bool.and_eq_true, beq_iff_eq, Bool.not_eq_true'] at h1
      obtain ⟨⟨⟨⟨rfl, rfl⟩, hdel⟩, hdi⟩, ht⟩ := h1
      obtain ⟨nm, bs, mro, ns, qn, hd, sn, sub, ab, col, del⟩ := cd
      dsimp only at hm hdel hdi
      subst hm hdel hdi
      have hsl : sl = #[k0, k1, k2, k3, some (.builtin "ValueError.__new__"), k5] := by
        obtain ⟨l⟩ := sl
        simp only at hs
        rw [hs]
      subst hsl
      exact ⟨nm, qn, ns, bs, bm, sn, sub, ab, col, dd, k0, k1, k2, k3, k5, ho, ht⟩
    · cases h1
  · cases h1
/-! ### __init__ -/
/-- the stores of the arguments: what stands behind them -/
def putF (fs : List (Str × V)) : List Str → List V → List (Str × V)
  | f :: ns, v :: vs => putF ((f, v) :: fs) ns vs
  | _, _ => fs
/-- the promise of __init__(self, ..), which stores its arguments under the names ns -/
def spInit (K : PySem.W.Frag) (ns : List Str) : Sp := fun vs H Q _ => ∃ (a C : Addr) (ws : List V), vs = .ref a :: ws ∧ ws.length = ns.length ∧ OexC K C ∧ (∀ f ∈ ns, PySem.W.findIn K (.ref C) f = some none) ∧ H a = some (exo a C none) ∧
  ∀ d H2, H d = none → d ≠ a → H2 a = some (exo a C (some d)) → H2 d = some (exd d (putF [] ns ws)) → (∀ b, b ≠ a → b ≠ d → H2 b = H b) → Q .non H2
section
variable {X : Cx}
theorem init1 {K : PySem.W.Frag} {f1 : Str} {Q : VK} {E : XK} {vs : List V} {H : Hp} {N : List Str} (h : spInit K [f1] vs H Q E) : tOst K f1 (tVar 0) (tVar 1) { nx := fun _ H' => Q .non H', rt := Q } (L2.start N vs) H := by
  obtain ⟨a, C, ws, rfl, hl, T, hf, e, q⟩ := h
  obtain ⟨x, rfl⟩ : ∃ x, ws = [x] := by
    cases ws with
    | nil => simp at hl
    | cons x ws => cases ws with
      | nil => exact ⟨x, rfl⟩
      | cons y ws => simp at hl
  have s0 : (L2.start N [V.ref a, x])[0]? = some (some (V.ref a)) := start_at rfl
  have s1 : (L2.start N [V.ref a, x])[1]? = some (some x) := start_at rfl
  refine ⟨x, s1, V.ref a, s0, a, C, rfl, T, hf f1 (by simp), .inl ⟨e, fun dx hd ne => ?_⟩⟩
  refine q dx _ hd ne upd_same (by rw [upd_ne ne, upd_same]; rfl) fun b h1 h2 => by rw [upd_ne h1, upd_ne h2]
theorem init2 {K : PySem.W.Frag} {f1 f2 : Str} {Q : VK} {E : XK} {vs : List V} {H : Hp} {N : List Str} (h : spInit K [f1, f2] vs H Q E) :
    tSeq (tOst K f1 (tVar 0) (tVar 1)) (tOst K f2 (tVar 0) (tVar 2)) { nx := fun _ H' => Q .non H', rt := Q } (L2.start N vs) H := by
  obtain ⟨a, C, ws, rfl, hl, T, hf, e, q⟩ := h
  obtain ⟨x, y, rfl⟩ : ∃ x y, ws = [x, y] := by
    cases ws with
    | nil => simp at hl
    | cons x ws => cases ws with
      | nil => simp at hl
      | cons y ws => cases ws with
        | nil => exact ⟨x, y, rfl⟩
        | cons z ws => simp at hl
  have s0 : (L2.start N [V.ref a, x, y])[0]? = some (some (V.ref a)) := start_at rfl
  have s1 : (L2.start N [V.ref a, x, y])[1]? = some (some x) := start_at rfl
  have s2 : (L2.start N [V.ref a, x, y])[2]? = some (some y) := start_at rfl
  refine ⟨x, s1, V.ref a, s0, a, C, rfl, T, hf f1 (by simp), .inl ⟨e, fun dx hd ne => ?_⟩⟩
  refine ⟨y, s2, V.ref a, s0, a, C, rfl, T, hf f2 (by simp), .inr ⟨dx, [(f1, x)], upd_same, by rw [upd_ne ne, upd_same], by simp, ?_⟩⟩
  refine q dx _ hd ne (by rw [upd_ne (Ne.symm ne), upd_same]) upd_same fun b h1 h2 => by rw [upd_ne h2, upd_ne h1, upd_ne h2]
end
/-- an exception's making, ready -/
structure XMk (X : Cx) (T : Tab) (c : Nat) (ns : List Str) : Prop where
  C : OexC X.K (T.exc c)
  no : ∀ f ∈ ns, PySem.W.findIn X.K (.ref (T.exc c)) f = some none
  lay : T.xlay c = ns
  nd : ns.Nodup
  fn : ∃ (fI : Addr) (fd : FuncData) (ps : List Str) (k : Nat), PySem.W.findIn X.K (.ref (T.exc c)) "__init__" = some (some (.ref fI)) ∧ PySem.W.typeIn X.K (.ref fI) = some (.type "function") ∧
    FnOk X.prog X.w X.K X.mg X.base (L2.CX X.prog X.w) k fI fd ps (spInit X.K ns) ∧ Room (k + 1) X.A ∧ Binds X.K fd ps []
def dRaise (c n : Nat) (a : DAn) : DSn := fun ρ => (a ρ).bind fun p => match vals p.2 with
  | some ds => if ds.length = n then .ex p.1 ⟨c, ds⟩ else .bad
  | none => .bad
theorem putF_look : ∀ {ns : List Str} {vs : List V} {fs : List (Str × V)} {i : Nat} {n : Str} {v : V}, ns.Nodup → ns[i]? = some n → vs[i]? = some v → (putF fs ns vs).lookup n = some v
  | [], vs, fs, i, n, v, _, e, _ => by simp at e
  | f :: ns, [], fs, i, n, v, _, _, e => by simp at e
  | f :: ns, w :: vs, fs, 0, n, v, nd, e1, e2 => by
    simp at e1 e2
    subst e1 e2
    have hn := (List.nodup_cons.mp nd).1
    have key : ∀ (ns : List Str) (vs : List V) (fs : List (Str × V)), f ∉ ns → (putF fs ns vs).lookup f = fs.lookup f := by
      intro ns
      induction ns with
      | nil => intro vs fs _; cases vs <;> rfl
      | cons g ns ih =>
        intro vs fs h
        cases vs with
        | nil => rfl
        | cons u vs =>
          show (putF ((g, u) :: fs) ns vs).lookup f = _
          rw [ih vs _ (fun z => h (List.mem_cons_of_mem _ z)), lookup_put, if_neg (fun z => h (by rw [z]; exact List.mem_cons_self))]
    show (putF ((f, w) :: fs) ns vs).lookup f = _
    rw [key ns vs _ hn, lookup_put, if_pos rfl]
  | f :: ns, w :: vs, fs, i + 1, n, v, nd, e1, e2 => by
    show (putF ((f, w) :: fs) ns vs).lookup n = _
    exact putF_look (List.nodup_cons.mp nd).2 (by simpa using e1) (by simpa using e2)
section
variable {X : Cx} {T : Tab} {W : WX} {pos : Pos}
theorem ds_raise {x : Str} {c : Nat} {ns : List Str} {e : Expr} {es : List Expr} {a : DAn} {p cpos : Pos} (M : XMk X T c ns) (hc : X.calm = true) (tk : Takes X W) (hm : X.mg x = some (.ref (T.exc c))) (ha : DA X T W (e :: es) a) (hns : ns.length ≤ 1000 := by decide) (hg : Gl X x := by rfl) (hdb : (x == ("__debug__" : Str)) = false := by decide)
    (he : starEach (e :: es) X.env = (false, eval e X.env) :: starEach es X.env := by rfl) (hpl : (backTo cpos (starEach es X.env)).any (·.1) = false := by rfl) :
    DS X T W (.Raise (some (.Call (.Name x p) (e :: es) [] cpos)) none pos) (dRaise c ns.length a) := by
  obtain ⟨fI, fd, ps, k, h1, h2, h3, h4, h5⟩ := M.fn
  refine PS.imp (ps_raise hc tk (pmk_oex (dvs := []) M.C h1 h2 h3 h4 h5 .nil passL hg hm ha hdb he hpl)) fun D σ H q => ?_
  obtain ⟨τ, ρ, G, k, q⟩ := q
  refine ⟨τ, ρ, G, k, (OutS.bindE q).imp fun ρ1 ops G1 H1 k1 fr1 q1 vs rvs fvs => ?_⟩
  dsimp only at q1
  split at q1
  · rename_i ds hv
    by_cases hl : ds.length = ns.length
    · rw [if_pos hl] at q1
      have rz := rz_vals rvs hv
      have hlen : vs.length = ns.length := by rw [rz.len, hl]
      refine ⟨by omega, fun ad had => ?_⟩
      rw [List.append_nil]
      refine ⟨ad, T.exc c, vs, rfl, hlen, M.C, M.no, upd_same, fun d H2 hd hda e1 e2 e3 => ⟨rfl, d, _, e1, e2, ?_, ?_⟩⟩
      · rw [upd_ne hda] at hd; exact hd
      · have hd1 : H1 d = none := by rw [upd_ne hda] at hd; exact hd
        have eH : upd (del H2 ad) d (.xd (putF [] ns vs)) = upd H1 d (.xd (putF [] ns vs)) := by
          funext b
          by_cases hb : b = d
          · subst hb; rw [upd_same, upd_same]
          · rw [upd_ne hb, upd_ne hb]
            by_cases hb2 : b = ad
            · subst hb2; rw [del_same, had]
            · rw [del_ne hb2, e3 b hb2 hb, upd_ne hb2]
        rw [eH]
        have n := New.loose (T := T) (o := .xd (putF [] ns vs)) k1.sub hd1
        refine q1 _ _ σ G1 _ (k1.new n) (fr1.trans n.fr) ⟨rfl, d, _, rfl, upd_same, by rw [M.lay, hl], fun i nm e h6 h7 => ?_⟩
        rw [M.lay] at h6
        obtain ⟨v, h8, h9⟩ := rz.get h7
        exact ⟨v, putF_look M.nd h6 h8, h9⟩
    · rw [if_neg hl] at q1; exact q1.elim
  · exact q1.elim
end
end Zd
end
section
/-! Zd 21: a lambda handed to a def, with further arguments. -/
namespace Zd
open PySem PySem.Spec PyProof.Rows L2 LamX
set_option autoImplicit false
section
variable {X : Cx} {pins : List (Addr × Obj)} {σ : L2.St} {H : Hp} {s : Shared}
/-- a lambda's making, told with what stays -/
theorem lam_mk {TL : List (Addr × Str)} {cA tP : Addr} {prm : Arguments} {bdy : Expr} {scp : Scope} {lp : Pos} {Er : Value → Shared → Prop} {Qr : Value → Shared → Prop} (I : Inv X pins σ H s)
    (tb : TabB X.base X.mg cA tP) (hco : X.env.code = .ref cA) (mem : (tP, X.env.qual ++ "<lambda>") ∈ TL) (one : ∀ p ∈ TL, p.1 = tP → p.2 = X.env.qual ++ "<lambda>") (ts : Tabs TL H)
    (nodef : defaultsOf prm X.env = ([], [])) (fre : ∀ y ∈ scp.names, y.2 = .free → ∃ c, X.env.cells.lookup y.1 = some c)
    (go : ∀ (fa ca : Addr) (pm ctv : Value) (H1 : Hp) (s1 : Shared), Inv X pins σ H1 s1 → ExtN H H1 → (∀ b, H1 b = none → H b = none) → Tabs TL H1 →
      s1.heap.get? fa = some (PySem.W.kla_obj "<lambda>" (X.env.qual ++ "<lambda>") prm bdy scp (cloFrom X.env.cells scp.names []) pm ca ctv) → H1 fa = none → fa ∉ frs X.stack → fa ≠ X.env.locals ∧ fa ∉ X.fs → H1 ca = some (CodeO ca (X.env.qual ++ "<lambda>")) → Qr (.ref fa) s1) :
    wpAny (model X.prog X.w) X.A (eval (.Lambda prm bdy scp lp) X.env) Qr Er s := by
  obtain ⟨es, q1, q2, q3⟩ := ts _ mem
  have far : ∀ z, s.heap.objs.size ≤ z → z ∉ frs X.stack ∧ z ≠ X.env.locals ∧ z ∉ X.fs := fun z hz => by
    have n1 : z ≠ X.env.locals := fun w => Nat.lt_irrefl _ (Nat.lt_of_lt_of_le I.lt (w ▸ hz))
    refine ⟨fun w => ?_, n1, I.nofs hz⟩
    cases List.mem_cons.mp (I.stkSub _ w) with
    | inl e => exact n1 e
    | inr e => exact I.nofs hz e
  have bt := tb.bm.keeps I.bk
  have at0 : s.heap.get? tP = some { cls := .none, data := .fields es } := I.hok tP _ q1
  refine PySem.W.kla_eval nodef ?_
  cases hc : codeAmong lp es.toList with
  | some cv =>
    obtain ⟨ca, e1, e2⟩ := q3 lp cv hc
    subst e1
    refine PySem.W.kla_makeFunctionHit (mg := X.mg) (c := cA) (P := tP) (ps := es) (closure_ok fre) I.ok.glob (I.mod.glob.keeps I.bk) hco (tb.code.keeps I.bk) at0 q2 hc bt fun ctv h1 tk kp sz => ?_
    have fr1 := far _ sz
    refine go h1.objs.size ca ((X.mg "__name__").getD .none) ctv H _ (I.kept fun b o e => Heap.get?_push_of_some _ (kp b o e)) (ExtN.refl H) (fun _ z => z) ts (Heap.get?_push_size _ rfl) (I.hok.fresh sz) fr1.1 fr1.2 e2
  | none =>
    refine PySem.W.kla_makeFunction (mg := X.mg) (c := cA) (P := tP) (ps := es) (closure_ok fre) I.ok.glob (I.mod.glob.keeps I.bk) hco (tb.code.keeps I.bk) at0 q2 hc tb.gP bt fun ca ctv h1 tk ext sz lt rec_ at1 => ?_
    obtain ⟨c2, oc, vs, t, w1, w2, w3, w4⟩ := rec_
    cases w1
    have szf : s.heap.objs.size ≤ h1.objs.size := by omega
    have ca0 : H ca = none := I.hok.fresh sz
    have tl : (es ++ #[rawInt lp.line, rawInt lp.col, .ref ca]).toList = es.toList ++ [rawInt lp.line, rawInt lp.col, .ref ca] := by simp
    have J := inv_table (t' := tk) (c := ca) (q := X.env.qual ++ "<lambda>") (more := #[rawInt lp.line, rawInt lp.col, .ref ca]) (h' := h1.push (PySem.W.kla_obj "<lambda>" (X.env.qual ++ "<lambda>") prm bdy scp (cloFrom X.env.cells scp.names []) ((X.mg "__name__").getD .none) ca ctv)) I q1
      (fun b o nb e => Heap.get?_push_of_some _ (ext b o nb e)) (Heap.get?_push_of_some _ at1) sz ⟨oc, vs, t, Heap.get?_push_of_some _ w2, w3, w4⟩
    have tp0 : tP ≠ ca := ne_of_none q1 ca0
    have ex : ExtN H (upd (upd H tP (.tbl (es ++ #[rawInt lp.line, rawInt lp.col, .ref ca]))) ca (CodeO ca (X.env.qual ++ "<lambda>"))) := fun b o e nt => by
      have nb : b ≠ tP := fun z => by
        subst z
        rw [q1] at e
        exact nt es (Option.some.inj e).symm
      rw [upd_ne (ne_of_none e ca0), upd_ne nb]
      exact e
    have back : ∀ b, upd (upd H tP (.tbl (es ++ #[rawInt lp.line, rawInt lp.col, .ref ca]))) ca (CodeO ca (X.env.qual ++ "<lambda>")) b = none → H b = none := fun b e => NdefX.upd_none (NdefX.upd_none e)
    have tabs1 : Tabs TL (upd (upd H tP (.tbl (es ++ #[rawInt lp.line, rawInt lp.col, .ref ca]))) ca (CodeO ca (X.env.qual ++ "<lambda>"))) := fun p hp => by
      by_cases hb : p.1 = tP
      · rw [one p hp hb, hb]
        refine ⟨_, (upd_ne tp0).trans upd_same, by rw [tl]; exact PySem.TriplesOk_snoc _ _ _ _ q2, fun pp cv e => ?_⟩
        rw [tl] at e
        cases among_app _ q2 e with
        | inl z =>
          obtain ⟨c0, y1, y2⟩ := q3 pp cv z
          exact ⟨c0, y1, ex _ _ y2 codeO_ne⟩
        | inr z => exact ⟨ca, z, upd_same⟩
      · obtain ⟨fs, y1, y2, y3⟩ := ts p hp
        refine ⟨fs, (upd_ne (ne_of_none y1 ca0)).trans ((upd_ne hb).trans y1), y2, fun pp cv e => ?_⟩
        obtain ⟨c0, y4, y5⟩ := y3 pp cv e
        exact ⟨c0, y4, ex _ _ y5 codeO_ne⟩
    have fr1 := far _ szf
    refine go h1.objs.size ca ((X.mg "__name__").getD .none) ctv _ _ J ex back tabs1 (Heap.get?_push_size _ rfl) ?_ fr1.1 fr1.2 upd_same
    have ltP := Heap.lt_size at0
    rw [upd_ne (Nat.ne_of_gt lt), upd_ne (Nat.ne_of_gt (Nat.lt_of_lt_of_le ltP szf))]
    exact I.hok.fresh szf
end
section
variable {X : Cx} {pins : List (Addr × Obj)} {σ : L2.St} {H : Hp} {s : Shared}
/-- a(), in the def that got the lambda; what it lets out is asked of the slots as they stand there -/
theorem pe_actS {CXg : CXT} {Eg : XK} {Ng : List Str} {qg : Str} {sg : Scope} {g fa ca : Addr} {cdg pm ctv : Value} {prm : Arguments} {bdy : Expr} {scp : Scope} {k i : Nat} {nm : Str} {pn : List (Addr × Obj)} {xe : Value → Shared → Prop} {W : WX} {E : XK} {tb : TE} {p1 p2 : Pos}
    (I : Inv X pins σ H s) (L : LamS X.env.scope scp) (obj : s.heap.get? fa = some (PySem.W.kla_obj "<lambda>" (X.env.qual ++ "<lambda>") prm bdy scp (cloFrom X.env.cells scp.names []) pm ca ctv)) (free : H fa = none) (nfr : fa ∉ frs X.stack)
    (bnd : bindArgs (PySem.W.kla_fn "<lambda>" (X.env.qual ++ "<lambda>") prm bdy scp (cloFrom X.env.cells scp.names []) pm (.ref ca) ctv) ⟨[], []⟩ = pure [])
    (tk : Takes ((cxOf CXg X.prog X.w X.K X.mg X.base Ng qg sg g cdg X.A X.stack s H Eg).tr pn xe) W) (rm : Room (k + 1) (X.A.deeper (envOfC qg sg s.heap.objs.size g cdg)))
    (bd : ∀ (A : Around) (outer : List PySem.Env) (s : Shared) (H : Hp), Room k (A.deeper (lamEnv X scp s.heap.objs.size fa ca)) → PE (lamCx X A outer s H E scp fa ca) bdy tb)
    (hN : Ng[i]? = some nm) (hv : Vis sg nm) (hd : (nm == ("__debug__" : Str)) = false := by decide) (hcd : (nm == ("__classdict__" : Str)) = false := by decide) :
    PE ((cxOf CXg X.prog X.w X.K X.mg X.base Ng qg sg g cdg X.A X.stack s H Eg).tr pn xe) (.Call (.Name nm p1) [] [] p2)
      (fun τ HZ Q => (∀ cls d H', E cls d H' → W cls d τ H') ∧ τ[i]? = some (some (.ref fa)) ∧ HZ ca = some (CodeO ca (X.env.qual ++ "<lambda>")) ∧ tb σ HZ Q) := by
  refine ⟨fun pz sz τ HZ Q J h => ?_⟩
  obtain ⟨hW, hs, hc, ht⟩ := h
  have nmv := (pe_var (pos := p1) (i := i) hN hv hd hcd).run pz sz τ HZ (fun v H1 => v = .ref fa ∧ H1 = HZ) J ⟨.ref fa, hs, rfl, rfl⟩
  refine wpAny_Call_Name_kw (wpAny_mono nmv (fun u t1 hu => ?_) fun _ _ z => z)
  obtain ⟨v, H1, J1, r1, ev, eH⟩ := hu
  subst ev
  rw [eH] at J1
  obtain rfl : u = Value.ref fa := r1
  have un0 : Un (frs X.stack) [] H HZ s.heap t1.heap := J1.base
  have there := un0.keep fa _ obj free nfr (fun z => nomatch (show fa ∈ ([] : List Addr) from z))
  refine PySem.W.callWith_F0 ⟨_, _, _, _, there⟩ ?_
  obtain ⟨⟨oc, vs, t, w1, w2, w3⟩, _, _⟩ := J1.hok ca _ hc
  have key : codeAny (model X.prog X.w) (X.A.deeper (envOfC qg sg s.heap.objs.size g cdg)) (.call (.ref fa) ⟨[], []⟩) (CR (L2.CX X.prog X.w) (envOfC qg sg s.heap.objs.size g cdg :: X.stack) X.prog X.w HZ t1 Q E) t1 := by
    refine PySem.W.kla_callFunE rm.depth there rfl L.co L.gen rfl ⟨ca, oc, vs, t, rfl, w1, w2, w3⟩ ?_
    rw [bnd]
    refine wpAny_pure (wpAny_newFunctionEnv (fun y hy => (L.own y hy).2) (fun y hy => absurd hy (by simp)) (fun hh hns hsb => ?_) L.kind)
    refine ⟨J1.nolimit.fresh _ hsb, ?_⟩
    have old : ∀ b o, t1.heap.get? b = some o → hh.get? b = some o := fun b o e => hsb.extBut b o (Nat.ne_of_lt (Heap.lt_size e)) (Heap.get?_push_of_some _ e)
    have J2 := lam_start2 (A := X.A.deeper (envOfC qg sg s.heap.objs.size g cdg)) (outer := envOfC qg sg s.heap.objs.size g cdg :: X.stack) (E := E) (f := fa) (c' := ca) (tk := t1.toks + ([] : List (Str × Value)).length) I L J1.env0 rm.hd un0 hns old
    show codeAny _ _ (.expr bdy (lamEnv X scp t1.heap.objs.size fa ca)) _ _
    refine PySem.W.kla_codeExpr (wpAny_mono ((bd _ _ t1 HZ (rm.deeper _)).run [] _ _ HZ Q J2 ht) (fun v s' hq => ?_) fun e s' hq => hq)
    obtain ⟨w', H', J', rv, q⟩ := hq
    exact ⟨w', H', J'.os, J'.bare, J'.base, J'.hok, rv, q⟩
  refine wpAny_call (codeAny_mono key fun r s' hq => ?_)
  cases r with
  | error e => exact tk e s' (XE.of_call J1 (fun cls d H' h => hW cls d H' h) hq)
  | ok fl =>
    cases fl with
    | ret u => exact J1.after hq
    | next => exact False.elim hq
    | brk => exact False.elim hq
    | cont => exact False.elim hq
end
/-- the def that calls what it got, further arguments behind it -/
def GivesA (X : Cx) (Ng : List Str) (x : Str) (sg : Scope) (g : Addr) (cdg : Value) (bg : List Stmt) (a : Str) (q : Str) (TT : (XK → Hp → VK → Prop) → List V → Hp → VK → Prop) : Prop :=
  ∀ (f c' : Addr) (s : Shared) (H : Hp) (Q : VK) (vs : List V) (tl : XK → Hp → VK → Prop),
    (∀ (W : WX) (pn : List (Addr × Obj)) (xe : Value → Shared → Prop) (E : XK) (p1 p2 : Pos), Takes ((cxOf C8.CX0 X.prog X.w X.K X.mg X.base Ng x sg g cdg X.A X.stack s H C8.E0).tr pn xe) W →
      PE ((cxOf C8.CX0 X.prog X.w X.K X.mg X.base Ng x sg g cdg X.A X.stack s H C8.E0).tr pn xe) (.Call (.Name a p1) [] [] p2) (fun σZ HZ Q => (∀ cls d H', E cls d H' → W cls d σZ H') ∧ σZ[0]? = some (some (.ref f)) ∧ HZ c' = some (CodeO c' q) ∧ tl E HZ Q)) →
    H c' = some (CodeO c' q) → Room 0 (X.A.deeper (envOfC x sg s.heap.objs.size g cdg)) → TT tl vs H Q →
    ∃ t, PSs (cxOf C8.CX0 X.prog X.w X.K X.mg X.base Ng x sg g cdg X.A X.stack s H C8.E0).nox bg t ∧ t { nx := fun _ H' => Q .non H', rt := Q } (L2.start Ng (.ref f :: vs)) H
def tLamA (TL : List (Addr × Str)) (q : Str) (n : Nat) (TT : (XK → Hp → VK → Prop) → List V → Hp → VK → Prop) (ta : TA) (t : XK → TE) : TE := fun σ H Q => Tabs TL H ∧ ∀ H1, ExtN H H1 → (∀ b, H1 b = none → H b = none) → Tabs TL H1 →
  ta σ H1 fun vs H2 => vs.length = n ∧ (∀ c, H1 c = some (CodeO c q) → H2 c = some (CodeO c q)) ∧ TT (fun E H' Q' => t E σ H' Q') vs H2 Q
section
variable {X : Cx}
/-- x(lambda: body, e, ..) -/
theorem pe_lamA {TL : List (Addr × Str)} {TT : (XK → Hp → VK → Prop) → List V → Hp → VK → Prop} {x a : Str} {g c P : Addr} {k : Nat} {pg : Arguments} {bg : List Stmt} {sg : Scope} {dV kV doc pm cdv ct oc : Value} {an od : Option Addr} {osl : Array (Option Value)} {Ng ps : List Str}
    {params : Arguments} {body : Expr} {scope : Scope} {es : List Expr} {ta : TA} {t : XK → TE} {p lpos pos : Pos} (hg : Gl X x) (hm : X.mg x = some (.ref g)) (hk : PySem.W.keepIn X.K (.ref g) = true)
    (lk : X.K.lookup g = some ⟨oc, od, .func (PySem.W.fnOf x x pg bg sg dV kV doc pm an cdv ct), osl⟩) (hcg : PySem.W.codeIn X.K cdv x = true) (hb : L2.Binds X.K (PySem.W.fnOf x x pg bg sg dV kV doc pm an cdv ct) (a :: ps) []) (Sg : FnScope Ng (a :: ps) sg) (hNg : Ng[0]? = some a) (hva : Vis sg a)
    (hG : GivesA X Ng x sg g cdv bg a (X.env.qual ++ "<lambda>") TT) (ha : PA X es ta)
    (TB : TabB X.base X.mg c P) (hcode : X.env.code = .ref c) (hmT : (P, X.env.qual ++ "<lambda>") ∈ TL) (hu : ∀ p ∈ TL, p.1 = P → p.2 = X.env.qual ++ "<lambda>") (hr : Room (k + 2) X.A) (L : LamS X.env.scope scope) (hdef : defaultsOf params X.env = ([], []))
    (hbind : ∀ (q : Str) (cl : List (Str × Addr)) (pm cv ctv : Value), bindArgs (PySem.W.kla_fn "<lambda>" q params body scope cl pm cv ctv) ⟨[], []⟩ = pure [])
    (hbody : ∀ (A : Around) (outer : List PySem.Env) (s : Shared) (H : Hp) (E : XK) (f c' : Addr), Room k (A.deeper (lamEnv X scope s.heap.objs.size f c')) → PE (lamCx X A outer s H E scope f c') body (t E))
    (he : starEach (.Lambda params body scope lpos :: es) X.env = (false, eval (.Lambda params body scope lpos) X.env) :: starEach es X.env := by rfl) (hpl : (backTo pos (starEach es X.env)).any (·.1) = false := by rfl)
    (hdb : (x == ("__debug__" : Str)) = false := by decide) (hd : (a == ("__debug__" : Str)) = false := by decide) (hcd : (a == ("__classdict__" : Str)) = false := by decide) :
    PE X (.Call (.Name x p) (.Lambda params body scope lpos :: es) [] pos) (tLamA TL (X.env.qual ++ "<lambda>") ps.length TT ta t) := by
  refine ⟨fun pins s σ H Q I h => ?_⟩
  obtain ⟨hT, h⟩ := h
  refine wpAny_Call_Name_kw (ld_glob I hg hm ?_ hdb)
  refine PySem.W.callWith_K (h₀ := X.base) I.ok.mod.kin hk ?_ he hpl
  show wpAny _ _ (spliced ((false, eval (.Lambda params body scope lpos) X.env) :: backTo pos (starEach es X.env))) _ _ s
  refine Calls.spliced_cons (lam_mk I TB hcode hmT hu hT hdef (L.has I.ok) fun f c' pm' ctv H1 s' I1 eN bk T1 hf hfn hfr hfr2 hco => ?_)
  have hdat : ∀ v, (PySem.W.kla_obj "<lambda>" (X.env.qual ++ "<lambda>") params body scope (cloFrom X.env.cells scope.names []) pm' c' ctv).data ≠ .cell v := fun v z => by
    have z2 : Data.func _ = Data.cell v := z
    cases z2
  have I1' : Inv X ((f, PySem.W.kla_obj "<lambda>" (X.env.qual ++ "<lambda>") params body scope (cloFrom X.env.cells scope.names []) pm' c' ctv) :: pins) σ H1 s' := I1.pins_of fun q hq => by
    rcases List.mem_cons.mp hq with e | e
    · subst e
      exact ⟨hf, hfn, hfr2.1, hfr2.2, hdat⟩
    · exact I1.pin q (List.mem_append_right _ e)
  refine wpAny_mono (ha.run pos _ s' σ H1 _ I1' (h H1 eN bk T1)) (fun us s2 hq => ?_) fun _ _ z => z
  obtain ⟨vs, H2, I2', rv, hl, hco2, q⟩ := hq
  have hpin := I2'.pin (f, _) (List.mem_append_right _ List.mem_cons_self)
  have I2 : Inv X pins σ H2 s2 := I2'.pins_of fun q hq => I2'.pin q (List.mem_append_right _ (List.mem_cons_of_mem _ hq))
  refine ⟨I2.kIn, ?_⟩
  have rc : codeAny (model X.prog X.w) X.A (.call (.ref g) ⟨.ref f :: us, []⟩) (CR C8.CX0 X.stack X.prog X.w H2 s2 Q C8.E0) s2 := by
    refine run_ofS (N := Ng) (ps := a :: ps) (us := .ref f :: us) (vs := .ref f :: vs) lk hcg Sg hr I2.env0 ?_ (.cons rfl rv) (by simp [hl]) fun hr' => ?_
    · have := hb s2 (.ref f :: us) I2.kIn (by rw [List.append_nil]; simp [← rv.length, hl])
      rw [List.append_nil] at this
      exact this
    · obtain ⟨t', ht', hq'⟩ := hG f c' s2 H2 Q vs (fun E H' Q' => t E σ H' Q') (fun W pn xe E p1 p2 tk => pe_actS (i := 0) I2 L hpin.1 hpin.2.1 hfr (hbind _ _ _ _ _) tk hr' (fun A outer s H hr2 => hbody A outer s H E f c' hr2) hNg hva hd hcd) (hco2 c' hco) (hr'.mono (Nat.zero_le _)) q
      exact ⟨t', ht'.nox, hq'⟩
  refine wpAny_call (codeAny_mono rc fun r s3 hq => ?_)
  cases r with
  | error e => exact (show False from hq).elim
  | ok fl =>
    cases fl with
    | ret u => exact I2.after hq
    | next => exact False.elim hq
    | brk => exact False.elim hq
    | cont => exact False.elim hq
end
end Zd
end
section
/-! Zd 22: a def that tells whether what it got is refused, by part and place. -/
namespace Zd
open PySem PySem.Spec PyProof.Rows L2 LamX
set_option autoImplicit false
def EqP (K : PySem.W.Frag) (y v : V) (H : Hp) (c : Bool) : Prop := ∃ d e, Dp K H y d ∧ Dp K H v e ∧ SeqAt.shaped d = true ∧ SeqAt.shaped e = true ∧ PyData.eqv d e = c
/-- what stands behind refusing -/
def TTRef (K : PySem.W.Frag) (C : Addr) (n1 n2 : Str) : (XK → Hp → VK → Prop) → List V → Hp → VK → Prop := fun tl vs H Q => ∃ v1 v2, vs = [v1, v2] ∧ tl (fun cls dx H' => ∃ b, PySem.W.exmOne K cls (.ref C) = some b ∧
  (b = true → cls = .ref C ∧ ∃ (dd : Addr) (fs : List (Str × V)) (y1 y2 : V) (c1 : Bool), dx = some dd ∧ H' dd = some (.xd fs) ∧ fs.lookup n1 = some y1 ∧ fs.lookup n2 = some y2 ∧ EqP K y1 v1 H' c1 ∧ (c1 = false → Q (.bl false) H') ∧ (c1 = true → ∃ c2, EqP K y2 v2 H' c2 ∧ Q (.bl c2) H')) ∧ (b = false → False)) H (fun _ H' => Q (.bl false) H')
abbrev rfBody (w n1 n2 e bp : Str) (p1 p2 p3 p4 p5 p6 p7 p8 p9 p10 p11 p12 p13 p14 p15 p16 p17 p18 : Pos) (j : Nat) : List Stmt :=
  [.Try [.Expr (.Call (.Name w p1) [] [] p2) p3, .Return (some (.Constant (.bool false) j p4)) p5]
    [.ExceptHandler (some (.Name bp p6)) (some e) [.Return (some (.BoolOp .And [.Compare (.Attribute (.Name e p7) n1 p8) [.Eq] [.Name n1 p9] p10, .Compare (.Attribute (.Name e p11) n2 p12) [.Eq] [.Name n2 p13] p14] p15)) p16] p17] [] [] p18]
section
variable {X : Cx}
theorem refuse_gives {Ng : List Str} {x w n1 n2 e bp q : Str} {sg : Scope} {g C : Addr} {cdg : Value} {j : Nat} {p1 p2 p3 p4 p5 p6 p7 p8 p9 p10 p11 p12 p13 p14 p15 p16 p17 p18 : Pos}
    (hN : Ng.Nodup) (h0 : Ng = [w, n1, n2, e]) (hb : sg.names.lookup bp = some .globalImplicit) (hm : X.mg bp = some (.ref C)) (XF : XfC X.K C) (f1 : PySem.W.findIn X.K (.ref C) n1 = some none) (f2 : PySem.W.findIn X.K (.ref C) n2 = some none)
    (le : sg.names.lookup e = some .local) (v1 : Vis sg n1) (v2 : Vis sg n2) (ve : Vis sg e)
    (hdb : (bp == ("__debug__" : Str)) = false := by decide) (d1 : (n1 == ("__debug__" : Str)) = false := by decide) (d2 : (n2 == ("__debug__" : Str)) = false := by decide) (d3 : (e == ("__debug__" : Str)) = false := by decide)
    (c1 : (n1 == ("__classdict__" : Str)) = false := by decide) (c2 : (n2 == ("__classdict__" : Str)) = false := by decide) (c3 : (e == ("__classdict__" : Str)) = false := by decide) :
    GivesA X Ng x sg g cdg (rfBody w n1 n2 e bp p1 p2 p3 p4 p5 p6 p7 p8 p9 p10 p11 p12 p13 p14 p15 p16 p17 p18 j) w q (TTRef X.K C n1 n2) := by
  intro f c' s H Q vs tl act hc hr h
  subst h0
  obtain ⟨z1, z2, rfl, h⟩ := h
  have hu : (X.A.deeper (envOfC x sg s.heap.objs.size g cdg)).units + 64 < cLine := by have := hr.un; omega
  have suite : ∀ (a : Addr) (oe : Obj) (cls : Value) (d : Option Addr) (pn : List (Addr × Obj)), Zc cls d oe → (∃ vs, oe.data = .fields vs) →
      PSs (((cxOf C8.CX0 X.prog X.w X.K X.mg X.base [w, n1, n2, e] x sg g cdg X.A X.stack s H C8.E0).nox).suite a ((a, oe) :: pn)) [.Return (some (.BoolOp .And [.Compare (.Attribute (.Name e p7) n1 p8) [.Eq] [.Name n1 p9] p10, .Compare (.Attribute (.Name e p11) n2 p12) [.Eq] [.Name n2 p13] p14] p15)) p16]
        (tRet (tAndV (tOp (rEqD X.K) (tXf a cls d C n1 (tVar 3)) (tVar 1)) (tOp (rEqD X.K) (tXf a cls d C n2 (tVar 3)) (tVar 2)))) := fun a oe cls d pn hz hf => by
    refine pss_one (ps_ret (pe_and (pe_cmpR (op_eqD hu) (pe_xf (X := (cxOf C8.CX0 X.prog X.w X.K X.mg X.base [w, n1, n2, e] x sg g cdg X.A X.stack s H C8.E0).nox) XF f1 hz hf (pe_var rfl ve d3 c3)) (pe_var rfl v1 d1 c1) (by rfl)) (pe_one (pe_cmpR (op_eqD hu) (pe_xf (X := (cxOf C8.CX0 X.prog X.w X.K X.mg X.base [w, n1, n2, e] x sg g cdg X.A X.stack s H C8.E0).nox) XF f2 hz hf (pe_var rfl ve d3 c3)) (pe_var rfl v2 d2 c2) (by rfl)))))
  refine ⟨_, pss_one (ps_try_as (X := (cxOf C8.CX0 X.prog X.w X.K X.mg X.base [w, n1, n2, e] x sg g cdg X.A X.stack s H C8.E0).nox) (c := .ref C) (i := 3)
    (tb := fun W D σ H => ∃ Ech : XK, (∀ cls d H', Ech cls d H' → W cls d σ H') ∧ σ[0]? = some (some (.ref f)) ∧ H c' = some (CodeO c' q) ∧ tl Ech H fun _ H' => D.rt (.bl false) H')
    (ts := fun a cls d => tRet (tAndV (tOp (rEqD X.K) (tXf a cls d C n1 (tVar 3)) (tVar 1)) (tOp (rEqD X.K) (tXf a cls d C n2 (tVar 3)) (tVar 2)))) rfl rfl hN rfl le ⟨hb, hdb, .inl hm⟩ LamX.takes0 (fun W pn xe tk _ => ?_) suite), ?_⟩
  · refine ⟨fun pins s' σ H' D I h' => ?_⟩
    obtain ⟨Ech, hW, y1, y2, y3⟩ := h'
    have hp := act W pn xe Ech p1 p2 tk
    have hq := pss_cons (ps_expr (pos := p3) hp) (pss_one (ps_ret (e := .Constant (.bool false) j p4) (pos := p5) pe_bl))
    exact hq.run pins s' σ H' D I ⟨hW, y1, y2, y3⟩
  · refine ⟨fun cls dx H' => ∃ b, PySem.W.exmOne X.K cls (.ref C) = some b ∧
      (b = true → cls = .ref C ∧ ∃ (dd : Addr) (fs : List (Str × V)) (y1 y2 : V) (c1 : Bool), dx = some dd ∧ H' dd = some (.xd fs) ∧ fs.lookup n1 = some y1 ∧ fs.lookup n2 = some y2 ∧ EqP X.K y1 z1 H' c1 ∧ (c1 = false → Q (.bl false) H') ∧ (c1 = true → ∃ c2, EqP X.K y2 z2 H' c2 ∧ Q (.bl c2) H')) ∧ (b = false → False), ?_, rfl, hc, h⟩
    intro cls dx H' ⟨b, b1, b2, b3⟩
    refine ⟨b, b1, fun hb a ha => ?_, fun hb => b3 hb⟩
    obtain ⟨ec, dd, fs, y1, y2, c1, e1, e2, e3, e4, ⟨d, e, q1, q2, q3, q4, q5⟩, e6, e7⟩ := b2 hb
    refine ⟨.ref a, rfl, rfl, ec, dd, fs, y1, e1, e2, e3, z1, rfl, d, e, q1, q2, q3, q4, c1, by rw [q5], ?_⟩
    cases c1 with
    | false => exact e6 rfl
    | true =>
      obtain ⟨c2, ⟨d', e', r1, r2, r3, r4, r5⟩, r6⟩ := e7 rfl
      exact ⟨.ref a, rfl, rfl, ec, dd, fs, y2, e1, e2, e4, z2, rfl, d', e', r1, r2, r3, r4, by rw [r5]; exact r6⟩
end
end Zd
end
section
/-! Zd 23: what is refused, as a value; defs that make lambdas; the end with tables. -/
namespace Zd
open PySem PySem.Spec PyProof.Rows L2 LamX
set_option autoImplicit false
/-- _law_refuses(lambda: d, part, place): c the exception's class -/
def dRefuse (c : Nat) (a : DAn) (d : DEn) : DEn := fun ρ => (a ρ).bind fun p => match vals p.2 with
  | some [d1, d2] => (match d p.1 with
    | .ok q => .ok (q.1, .bl false)
    | .ex ρ' x => if x.c = c then (match x.xs with
      | [y1, y2] => (match eqD y1 d1 with
        | some (.bl true) => (match eqD y2 d2 with
          | some (.bl b) => .ok (ρ', .bl b)
          | _ => .bad)
        | some (.bl false) => .ok (ρ', .bl false)
        | _ => .bad)
      | _ => .bad) else .bad
    | .bad => .bad)
  | _ => .bad
theorem eqP_of {K : PySem.W.Frag} {T : Tab} {G H : Hp} {y v : V} {a b : D} {c : Bool} (s : Same G H) (hy : Rz K T G y a) (hv : Rz K T G v b) (e : eqD a b = some (.bl c)) : EqP K y v H c := by
  obtain ⟨d, e', h1, h2, h3, h4, h5⟩ := s_eq y v a b (.bl c) G H (fun v _ => v = .bl c) s (.inl hy) (.inl hv) e (fun v G' H' _ rz => by rw [Rz] at rz; exact rz)
  exact ⟨d, e', h1, h2, h3, h4, by injection h5⟩
theorem lam_ok {K : PySem.W.Frag} {T : Tab} {τ : Nat → Addr} {ρ : Env} {σ : L2.St} {G H H1 : Hp} (k : Ok K T τ ρ σ G H) (ex : ExtN H H1) (bk : ∀ b, H1 b = none → H b = none) (tb : Tabs T.tabs H1) : Ok K T τ ρ σ G H1 ∧ Fr ρ σ G H ρ σ G H1 :=
  ⟨⟨fun b o e => ex b o (k.sub b o e) fun ps z => k.tab.no b ps (by rw [e, z]), k.len, k.val, fun i t o e => by
    obtain ⟨a, q1, q2, q3, q4⟩ := k.own i t o e
    exact ⟨a, q1, q2, q3.mono (Same.refl _) fun u hu nt => ex _ _ hu nt, q4⟩, k.dis, ⟨tb, k.tab.no⟩⟩,
   ⟨Same.refl _, fun a o h nt no => ⟨ex a o h nt, rfl, no⟩, fun a o h => by
    cases e : H1 a with
    | none => rw [bk a e] at h; cases h
    | some o' => exact ⟨o', rfl⟩⟩⟩
theorem codeO_nt {c : Addr} {q : Str} : NT (CodeO c q) := fun _ z => by unfold CodeO at z; cases z
theorem own_code {K : PySem.W.Frag} {T : Tab} {τ : Nat → Addr} {ρ : Env} {σ : L2.St} {G H : Hp} {c : Addr} {q : Str} (k : Ok K T τ ρ σ G H) (h : H c = some (CodeO c q)) : ¬ OwnAt ρ σ c := fun ⟨i, t, o, e1, e2⟩ => by
  obtain ⟨a, q1, q2, q3, q4⟩ := k.own i t o e1
  rw [e2] at q1
  cases q1
  unfold CodeO at h
  cases o with
  | lst ds => obtain ⟨xs, z, _⟩ := q3; rw [h] at z; cases z
  | ins c ds => obtain ⟨dx, fs, z, _⟩ := q3; rw [h] at z; cases z
  | dct ks ds => obtain ⟨kvs, z, _⟩ := q3; rw [h] at z; cases z
theorem refuse_of {K : PySem.W.Frag} {T : Tab} {W : WX} {c : Nat} {n1 n2 q : Str} {a : DAn} {d : DEn} (lay : T.xlay c = [n1, n2]) (hx : PySem.W.exmOne K (.ref (T.exc c)) (.ref (T.exc c)) = some true) (σ : L2.St) (H : Hp) (Q : VK) (h : tE K T W (dRefuse c a d) σ H Q) :
    tLamA T.tabs q 2 (TTRef K (T.exc c) n1 n2) (tA K T W a) (fun E => tE K T (WB E) d) σ H Q := by
  obtain ⟨τ, ρ, G, k, h⟩ := h
  refine ⟨k.tab.tb, fun H1 ex bk tb => ?_⟩
  obtain ⟨k1, f1⟩ := lam_ok k ex bk tb
  refine ⟨τ, ρ, G, k1, (Out.bind (Out.shift f1 h)).imp fun ρ1 ops G2 H2 k2 f2 q2 vs rvs fvs => ?_⟩
  dsimp only at q2
  split at q2
  · rename_i d1 d2 hv
    have rz := rz_vals rvs hv
    obtain ⟨v1, r1, e1, z1, rz⟩ := rz.cons_inv
    obtain ⟨v2, r2, e2, z2, rz⟩ := rz.cons_inv
    have e3 := rz.nil_inv
    subst e3 e2 e1
    refine ⟨rfl, fun cc hcc => (f2.keep cc _ hcc codeO_nt (own_code k1 hcc)).1, v1, v2, rfl, τ, ρ1, G2, k2, ?_⟩
    cases e : d ρ1 with
    | bad => rw [e] at q2; exact q2.elim
    | ok p =>
      rw [e] at q2
      exact fun G3 H3 k3 f3 v rz => q2 G3 H3 k3 f3 _ Rz.bl_
    | ex ρ' x =>
      rw [e] at q2
      dsimp only at q2
      by_cases hc : x.c = c
      · rw [if_pos hc] at q2
        intro cls dx G3 H3 k3 f3 xo
        obtain ⟨ec, dd, fs, ed, eh, el, ea⟩ := xo
        subst ed
        rw [hc] at ec el ea
        subst ec
        split at q2
        · rename_i y1 y2 hxs
          rw [hxs, lay] at ea
          obtain ⟨w1, l1, s1⟩ := ea 0 n1 y1 rfl rfl
          obtain ⟨w2, l2, s2⟩ := ea 1 n2 y2 rfl rfl
          refine ⟨true, hx, fun _ => ⟨rfl, dd, fs, w1, w2, ?_⟩, fun z => nomatch z⟩
          split at q2
          · rename_i e5
            refine ⟨true, rfl, eh, l1, l2, eqP_of k3.sub s1 (z1.mono f3.gro) e5, (fun z => nomatch z), fun _ => ?_⟩
            split at q2
            · rename_i b e6
              exact ⟨b, eqP_of k3.sub s2 (z2.mono f3.gro) e6, q2 G3 H3 k3 f3 _ Rz.bl_⟩
            · exact q2.elim
          · rename_i e5
            exact ⟨false, rfl, eh, l1, l2, eqP_of k3.sub s1 (z1.mono f3.gro) e5, fun _ => q2 G3 H3 k3 f3 _ Rz.bl_, fun z => nomatch z⟩
          · exact q2.elim
        · exact q2.elim
      · rw [if_neg hc] at q2; exact q2.elim
  · exact q2.elim
/-- the def that refuses, ready -/
structure RfOk (X : Cx) (T : Tab) (x : Str) (g : Addr) (c : Nat) (n1 n2 : Str) : Prop where
  ex : ∃ (w e bp : Str) (pg : Arguments) (bg : List Stmt) (sg : Scope) (dV kV doc pm cdv ct oc : Value) (an od : Option Addr) (osl : Array (Option Value)), X.K.lookup g = some ⟨oc, od, .func (PySem.W.fnOf x x pg bg sg dV kV doc pm an cdv ct), osl⟩ ∧ PySem.W.codeIn X.K cdv x = true ∧
    L2.Binds X.K (PySem.W.fnOf x x pg bg sg dV kV doc pm an cdv ct) [w, n1, n2] [] ∧ FnScope [w, n1, n2, e] [w, n1, n2] sg ∧ Vis sg w ∧ (∀ q, GivesA X [w, n1, n2, e] x sg g cdv bg w q (TTRef X.K (T.exc c) n1 n2)) ∧ (w == ("__debug__" : Str)) = false ∧ (w == ("__classdict__" : Str)) = false
  kp : PySem.W.keepIn X.K (.ref g) = true
  lay : T.xlay c = [n1, n2]
  exm : PySem.W.exmOne X.K (.ref (T.exc c)) (.ref (T.exc c)) = some true
section
variable {X : Cx} {T : Tab} {W : WX} {pos : Pos}
theorem de_refuse {x : Str} {g cA tP : Addr} {c k : Nat} {n1 n2 : Str} {prm : Arguments} {bdy : Expr} {scp : Scope} {lp p : Pos} {es : List Expr} {a : DAn} {d : DEn} (R : RfOk X T x g c n1 n2) (hm : X.mg x = some (.ref g)) (tb : TabB X.base X.mg cA tP) (hco : X.env.code = .ref cA)
    (mem : (tP, X.env.qual ++ "<lambda>") ∈ T.tabs) (one : ∀ p ∈ T.tabs, p.1 = tP → p.2 = X.env.qual ++ "<lambda>") (hr : Room (k + 2) X.A) (L : lamSB X.env.scope scp = true)
    (hbody : ∀ (A : Around) (outer : List PySem.Env) (s : Shared) (H : Hp) (E : XK) (f c' : Addr), Room k (A.deeper (lamEnv X scp s.heap.objs.size f c')) → DE (lamCx X A outer s H E scp f c') T (WB E) bdy d) (ha : DA X T W es a)
    (nodef : defaultsOf prm X.env = ([], []) := by rfl) (bnd : ∀ (q : Str) (cl : List (Str × Addr)) (pm cv ctv : Value), bindArgs (PySem.W.kla_fn "<lambda>" q prm bdy scp cl pm cv ctv) ⟨[], []⟩ = pure [] := by intro _ _ _ _ _; rfl) (hg : Gl X x := by rfl)
    (he : starEach (.Lambda prm bdy scp lp :: es) X.env = (false, eval (.Lambda prm bdy scp lp) X.env) :: starEach es X.env := by rfl) (hpl : (backTo pos (starEach es X.env)).any (·.1) = false := by rfl) (hdb : (x == ("__debug__" : Str)) = false := by decide) :
    DE X T W (.Call (.Name x p) (.Lambda prm bdy scp lp :: es) [] pos) (dRefuse c a d) := by
  obtain ⟨w, e, bp, pg, bg, sg, dV, kV, doc, pm, cdv, ct, oc, an, od, osl, h1, h2, h3, h4, h5, h6, h7, h8⟩ := R.ex
  exact PE.imp (pe_lamA (TL := T.tabs) (t := fun E => tE X.K T (WB E) d) hg hm R.kp h1 h2 h3 h4 rfl h5 (h6 _) ha tb hco mem one hr (lamS_by L) nodef bnd hbody he hpl hdb h7 h8) fun σ H Q q => refuse_of R.lay R.exm σ H Q q
end
/-- a def whose code object's address is told -/
theorem fn_specC {P : Program} {w : World} {K : PySem.W.Frag} {mg : Str → Option Value} {base : Heap} {x qual : Str} {params : Arguments} {body : List Stmt} {scope : Scope} {dvs : List V} {kws : List (Str × V)} {f : Addr} {fd : FuncData} {N ps : List Str} {k : Nat} {T : Tab} {d : DSn} {p : He.Defn}
    (F : FunD K x qual params body scope dvs kws f fd) (hp : He.fAd K p = f) (S : FnScope N ps scope)
    (hbody : ∀ (A : Around) (outer : List PySem.Env) (s : Shared) (H : Hp) (E : XK), Room k (A.deeper (envOfC qual scope s.heap.objs.size f (.ref (He.codeOf K p)))) →
      DSs (cxOf (L2.CX P w) P w K mg base N qual scope f (.ref (He.codeOf K p)) A outer s H E) T (WB E) body d) : FnOk P w K mg base (L2.CX P w) (k + 1) f fd ps (spOf K T ps.length (cfOf N.length ps.length d)) := by
  subst hp
  obtain ⟨oc, od, dV, kV, doc, pm, an, cdv, ct, osl, rfl, lk, hcd, _, _⟩ := F.ex
  obtain ⟨c, rfl⟩ := He.codeIn_ref hcd
  have ec := He.codeOf_eq lk (c := c) rfl
  rw [ec] at hbody
  exact fn_of lk hcd S (fun vs H Q E h => h.1) fun A outer s H vs Q E hr h => ⟨_, hbody A outer s H E hr, tS_spOf h⟩
theorem fnAllC {P : Program} {w : World} {K : PySem.W.Frag} {mg : Str → Option Value} {base : Heap} {T : Tab} {x qual : Str} {params : Arguments} {body : List Stmt} {scope : Scope} {f : Addr} {N ps : List Str} {k : Nat} {d : DSn} {p : He.Defn}
    (F : ∃ fd, FunD K x qual params body scope [] [] f fd) (hp : He.fAd K p = f) (S : FnScope N ps scope)
    (hb : ∀ (kV doc pm : Value) (an : Option Addr) (cdv ct : Value) (us : List Value), us.length = ps.length → bindArgs (PySem.W.fnOf x qual params body scope .none kV doc pm an cdv ct) ⟨us, []⟩ = pure (ps.zip us))
    (hbody : ∀ (A : Around) (outer : List PySem.Env) (s : Shared) (H : Hp) (E : XK), Room k (A.deeper (envOfC qual scope s.heap.objs.size f (.ref (He.codeOf K p)))) →
      DSs (cxOf (L2.CX P w) P w K mg base N qual scope f (.ref (He.codeOf K p)) A outer s H E) T (WB E) body d) : FnAll P w K mg base T (k + 1) f ps ps.length (cfOf N.length ps.length d) := by
  obtain ⟨fd, F⟩ := F
  exact ⟨⟨fd, fn_specC F hp S hbody, F.bindsN hb, F.kp⟩, fun bs h => cfOf_bad bs h⟩
end Zd
end
section
/-! Zd 24: == and != of instances whose class has its own __eq__. -/
namespace Zd
open PySem PySem.Spec PyProof.Rows L2
set_option autoImplicit false
theorem ns_at {K : PySem.W.Frag} {h : Heap} {N : Addr} {m : Str → Option Value} {n : Str} {v : Value} (X : K.In h) (G : h.Ns N m) (e : PySem.W.nsIn K N n = some (some v)) : m n = some v := by
  obtain ⟨o, es, ep, ho, hd, _, hf⟩ := G
  unfold PySem.W.nsIn at e
  split at e
  · rename_i c d es' n' sl q
    have z := X _ _ q
    rw [ho] at z
    cases z
    cases hd
    split at e
    · rename_i en he
      rw [← hf]
      unfold nsFind findBy
      rw [← Array.find?_toList, he]
      cases e
      rfl
    · split at e <;> cases e
  · cases e
/-- the class at C has its own __eq__ at f, and no __ne__; no base but object -/
def eqNeB (K : PySem.W.Frag) (C f : Addr) : Bool := (match K.lookup C with
  | some ⟨.type t, _, .cls cd, sl⟩ => t == "type" && (match cd.mro, sl.toList with
    | [.ref C', .type b], [_, _, _, _, some (.builtin n), _] => C' == C && b == "object" && !cd.hasDel && PySem.W.nsOkIn K cd.ns && decide (PySem.W.nsIn K cd.ns "__eq__" = some (some (.ref f))) && decide (PySem.W.nsIn K cd.ns "__ne__" = some none)
    | _, _ => false)
  | _ => false) && (He.eqO (PySem.W.findIn K (.ref C) "__eq__") (some (some (.ref f))) && PySem.W.isFn K (.ref f))
theorem eqNe_find {K : PySem.W.Frag} {C f : Addr} (h : eqNeB K C f = true) : PySem.W.findIn K (.ref C) "__eq__" = some (some (.ref f)) ∧ PySem.W.isFn K (.ref f) = true := by
  obtain ⟨_, h⟩ := He.ba h
  obtain ⟨h1, h2⟩ := He.ba h
  exact ⟨He.eqO_ok h1, h2⟩
theorem eqNe_ok {K : PySem.W.Frag} {h : Heap} {C f x : Addr} {o : Obj} (X : K.In h) (e : eqNeB K C f = true) (hx : h.get? x = some o) (hc : o.cls = .ref C) : h.OwnEqNoNe x C f "object" [.type "object"] := by
  obtain ⟨h1, h2⟩ := He.ba e
  obtain ⟨_, hfn⟩ := eqNe_find e
  obtain ⟨of_, hof, hofc⟩ : ∃ of : Obj, h.get? f = some of ∧ of.cls = .type "function" := by
    have q : (K.lookup f).map (·.cls) = some (.type "function") := beq_iff_eq.mp hfn
    cases e2 : K.lookup f with
    | none => rw [e2] at q; cases q
    | some u =>
      rw [e2] at q
      exact ⟨u, X _ _ e2, by simpa using q⟩
  split at h1
  · rename_i t dd cd sl ho
    obtain ⟨ht, h1⟩ := He.ba h1
    obtain rfl : t = "type" := beq_iff_eq.mp ht
    split at h1
    · rename_i C' b k0 k1 k2 k3 n k5 hm hs
      obtain ⟨_, h1⟩ := He.ba h1
      simp only [Bool.and_eq_true, beq_iff_eq, Bool.not_eq_true', decide_eq_true_iff] at h1
      obtain ⟨⟨⟨⟨⟨rfl, rfl⟩, hdel⟩, hns⟩, heq⟩, hne⟩ := h1
      obtain ⟨nm, bs, mro, ns, qn, hd, sn, sub, ab, col, del⟩ := cd
      dsimp only at hm hdel hns heq hne
      subst hm hdel
      have hsl : sl = #[k0, k1, k2, k3, some (.builtin n), k5] := by
        obtain ⟨l⟩ := sl
        simp only at hs
        rw [hs]
      subst hsl
      have G : h.Ns ns (h.nsMap ns) := .of_isNs (PySem.W.isNs_of_in X hns)
      exact ⟨o, of_, nm, qn, ns, bs, hd, sn, sub, ab, col, dd, k0, k1, k2, k3, k5, n, h.nsMap ns, _, hx, hc, X _ _ ho, G, ns_at X G heq, hof, hofc, PySem.F.cmp_object.mro, PySem.F.cmp_object.eq.lookup, PySem.W.nsMap_none_of_in X hns hne⟩
    · cases h1
  · cases h1
/-- instances: a's class has its own __eq__ (neg: by !=) -/
def pairB (K : PySem.W.Frag) (C C' : Addr) : Bool := PySem.W.notFirst K C (.ref C')
structure EqR (X : Cx) (T : Tab) (c : Nat) (F : CF) : Prop where
  bad : ∀ bs, bs.length ≠ 2 → F bs = .bad
  fn : ∃ (f : Addr) (fd : FuncData) (ps : List Str) (k : Nat), eqNeB X.K (T.cls c) f = true ∧ FnOk X.prog X.w X.K X.mg X.base (L2.CX X.prog X.w) k f fd ps (spOf X.K T 2 F) ∧ Room (k + 1) X.A ∧ Binds X.K fd ps []
structure QOk (X : Cx) (T : Tab) (M : Nat → Option CF) (Pr : Nat → Nat → Bool) : Prop where
  all : ∀ c F, M c = some F → EqR X T c F
  two : ∀ c c', Pr c c' = true → PySem.W.notFirst X.K (T.cls c) (.ref (T.cls c')) = true
def rEqI (X : Cx) (T : Tab) (M : Nat → Option CF) (Pr : Nat → Nat → Bool) (neg : Bool) : R2 := fun x y H Q => ∃ (c c' : Nat) (F : CF) (a b dx dy : Addr) (fs gs : List (Str × V)), M c = some F ∧ (if neg then c = c' else Pr c c' = true) ∧ x = .ref a ∧ y = .ref b ∧ H a = some (.ins (T.cls c) dx fs) ∧ H b = some (.ins (T.cls c') dy gs) ∧
  spOf X.K T 2 F [.ref a, .ref b] H (fun v H' => ∃ r, v = .bl r ∧ Q (.bl (if neg then !r else r)) H') E0
section
variable {X : Cx} {T : Tab} {M : Nat → Option CF} {Pr : Nat → Nat → Bool}
theorem op_eqI (O : QOk X T M Pr) : OpR X (compareOp .Eq) (rEqI X T M Pr false) := by
  intro pins s σ H x y v u Q I rx ry h
  obtain ⟨c, c', F, a, b, dx, dy, fs, gs, hM, hp, rfl, rfl, ha, hb, q⟩ := h
  cases rx
  cases ry
  obtain ⟨f, fd, ps, k, e1, Fn, hr, hbd⟩ := (O.all c F hM).fn
  obtain ⟨e2, e3⟩ := eqNe_find e1
  obtain ⟨mA, J, _⟩ := ins_get I.hok ha
  obtain ⟨mB, J', _⟩ := ins_get I.hok hb
  obtain ⟨od, J, _⟩ := J.look
  obtain ⟨od', J', _⟩ := J'.look
  obtain ⟨m, hF⟩ := I.fr
  show wpAny (model X.prog X.w) X.A (richCompare .Eq (.ref a) (.ref b)) (EP X pins σ Q) X.xe s
  refine PySem.W.cmp_K (op := .Eq) (tb := .ref (T.cls c')) hr.units0 hF I.ok.mod.kin J J'.type (O.two c c' (by simpa using hp)) e2 e3 ?_
  have hl := Fn.len _ _ _ _ q
  refine wpAny_call (codeAny_mono (Fn.run X.A X.stack s H ⟨[.ref a, .ref b], []⟩ [.ref a, .ref b] [.ref a, .ref b] _ E0 (hr.mono (Nat.le_succ k)) I.env0 (by
    have z := hbd s [.ref a, .ref b] I.kIn (by simpa using hl)
    simpa using z) (.cons rfl (.cons rfl .nil)) q) fun r s' hq => ?_)
  cases r with
  | error e =>
    obtain ⟨_, _, _, _, _, _, _, _, _, _, _, _, z⟩ := (show L2.CX X.prog X.w X.stack H s E0 e s' from hq)
    exact z.elim
  | ok fl =>
    cases fl with
    | ret w =>
      obtain ⟨z, H', I', rz, r, ez, q'⟩ := I.after hq
      subst ez
      cases rz
      exact ⟨.bl r, H', I', rfl, by simpa using q'⟩
    | next => exact False.elim hq
    | brk => exact False.elim hq
    | cont => exact False.elim hq
theorem op_neI (O : QOk X T M Pr) : OpR X (compareOp .NotEq) (rEqI X T M Pr true) := by
  intro pins s σ H x y v u Q I rx ry h
  obtain ⟨c, c', F, a, b, dx, dy, fs, gs, hM, hp, rfl, rfl, ha, hb, q⟩ := h
  obtain rfl : c = c' := by simpa using hp
  cases rx
  cases ry
  obtain ⟨f, fd, ps, k, e1, Fn, hr, hbd⟩ := (O.all c F hM).fn
  have hA : H a = some (.ins (T.cls c) dx fs) := ha
  obtain ⟨_, _, _, oA, _⟩ := (show ObjOk X.prog X.w H s.heap a (.ins (T.cls c) dx fs) from I.hok a _ ha)
  obtain ⟨_, _, _, oB, _⟩ := (show ObjOk X.prog X.w H s.heap b (.ins (T.cls c) dy gs) from I.hok b _ hb)
  have hq0 := eqNe_ok I.kIn e1 oA rfl
  obtain ⟨hp, g, d, t, os⟩ := s
  refine compareOp_ne_ownEq PySem.F.cmp_object hq0 oB rfl (by have := hr.un; omega) ?_
  have hl := Fn.len _ _ _ _ q
  refine wpAny_call (codeAny_mono (Fn.run X.A.in1 X.stack _ H ⟨[.ref a, .ref b], []⟩ [.ref a, .ref b] [.ref a, .ref b] _ E0 hr.in1 I.env0.in1 (by
    have z := hbd ⟨hp, g, d, t, os⟩ [.ref a, .ref b] I.kIn (by simpa using hl)
    simpa using z) (.cons rfl (.cons rfl .nil)) q) fun r s' hq => ?_)
  cases r with
  | error e =>
    obtain ⟨_, _, _, _, _, _, _, _, _, _, _, _, z⟩ := (show L2.CX X.prog X.w X.stack H _ E0 e s' from hq)
    exact z.elim
  | ok fl =>
    cases fl with
    | ret w =>
      obtain ⟨z, H', I', rz, r, ez, q'⟩ := I.after hq
      subst ez
      cases rz
      exact ⟨r, rfl, .bl (!r), H', I', rfl, by simpa using q'⟩
    | next => exact False.elim hq
    | brk => exact False.elim hq
    | cont => exact False.elim hq
end
end Zd
end
section
/-! Zd 25: == and != of values and of instances. -/
namespace Zd
open PySem PySem.Spec PyProof.Rows L2
set_option autoImplicit false
section
variable {K : PySem.W.Frag} {T : Tab} {τ : Nat → Addr} {ρ : Env} {σ : L2.St} {G H G' H' : Hp}
theorem argB_nofr {op : Op} {d : D} (e : argB ρ op = some (.val d)) (od : OD) : op ≠ .fr od := fun z => by subst z; cases e
theorem own_val : ∀ {ops : List Op}, (∀ op ∈ ops, ∃ d, argB ρ op = some (.val d)) → ownPl ρ ops = []
  | [], _ => rfl
  | op :: ops, h => by
    have ih := own_val (ops := ops) fun o ho => h o (List.mem_cons_of_mem _ ho)
    obtain ⟨d, e⟩ := h op List.mem_cons_self
    unfold ownPl
    cases op with
    | pl i =>
      have e : ρ[i]?.join = some (B.val d) := e
      dsimp only
      split
      · rename_i t o q
        rw [q] at e
        cases e
      · exact ih
    | _ => exact ih
theorem back_val2 {v v2 : V} {op op2 : Op} {d d2 : D} {outs : List (Option OD)} (k : Ok K T τ ρ σ G H) (rv : RpOp K T ρ σ G H v op) (e : argB ρ op = some (.val d)) (rv2 : RpOp K T ρ σ G H v2 op2) (e2 : argB ρ op2 = some (.val d2))
    (r : Ret K T G H [v, v2] [.val d, .val d2] outs G' H') : Ok K T τ ρ σ G' H' ∧ Fr ρ σ G H ρ σ G' H' := by
  have ea : argsB ρ [op, op2] = some [.val d, .val d2] := by simp [argsB, e, e2]
  have ew : wb ρ [op, op2] ([] : List (Option OD)) = ρ := rfl
  have nd : (ownPl ρ [op, op2]).Nodup := by
    rw [own_val (fun o ho => by
      simp at ho
      rcases ho with rfl | rfl
      · exact ⟨d, e⟩
      · exact ⟨d2, e2⟩)]
    exact List.nodup_nil
  have r' : Ret K T G H [v, v2] [.val d, .val d2] [] G' H' := ⟨r.sub, r.gro, r.keep, r.tab, r.stay, fun j t o h => by
    cases j with
    | zero => simp at h
    | succ j => cases j <;> simp at h⟩
  have := back_call (us := []) k (vs := [v, v2]) (os := [op, op2]) (bs := [.val d, .val d2]) ⟨rv, ⟨rv2, trivial, fun _ _ j _ z => by simp at z⟩, fun od z => absurd z (argB_nofr e od)⟩ ea nd r'
  rwa [ew] at this
end
def okP (neg : Bool) (Pr : Nat → Nat → Bool) (c c' : Nat) : Bool := match neg with
  | true => decide (c = c')
  | false => Pr c c'
def flp (neg r : Bool) : Bool := match neg with
  | true => !r
  | false => r
def dEqM (neg : Bool) (M : Nat → Option CF) (Pr : Nat → Nat → Bool) (a b : DOn) : DEn := fun ρ => (a ρ).bind fun p => (b p.1).bind fun q => match argB q.1 p.2, argB q.1 q.2 with
  | some (.val (.ins c xs)), some (.val (.ins c' ys)) => (match M c with
    | some F => if okP neg Pr c c' = true then (match F [.val (.ins c xs), .val (.ins c' ys)] with
      | .ok _ (.bl r) => .ok (q.1, .bl (flp neg r))
      | _ => .bad) else .bad
    | none => .bad)
  | _, _ => (match res q.1 p.2, res q.1 q.2 with
    | some x, some y => (ofO ((if neg then neD else eqD) x y)).bind fun d => .ok (q.1, d)
    | _, _ => .bad)
section
variable {X : Cx} {T : Tab} {W : WX} {pos : Pos}
theorem tEqM_of {M : Nat → Option CF} {Pr : Nat → Nat → Bool} {neg : Bool} {oa ob : DOn} {r : R2} (hr : Snd2 X.K T r (if neg then neD else eqD)) (σ : L2.St) (H : Hp) (Q : VK) (q : tE X.K T W (dEqM neg M Pr oa ob) σ H Q) : tOp (fun x y H Q => r x y H Q ∨ rEqI X T M Pr neg x y H Q) (tO X.K T W oa) (tO X.K T W ob) σ H Q := by
  obtain ⟨τ, ρ, G, k, q⟩ := q
  refine ⟨τ, ρ, G, k, (Out.bind q).imp fun ρ1 op G1 H1 k1 fr1 q1 v rv fv => ?_⟩
  refine ⟨τ, ρ1, G1, k1, (Out.bind q1).imp fun ρ2 op2 G2 H2 k2 fr2 q2 y ry fy => ?_⟩
  have rv2 := rv.fr fr2
  dsimp only at q2
  split at q2
  · rename_i c xs c' ys h1 h2
    have rz := argB_val k2 h1 rv2
    have rz' := rz
    rw [Rz] at rz
    obtain ⟨a, dx, fs, rfl, e2, e3, e4⟩ := rz
    have sz := argB_val k2 h2 ry
    have sz' := sz
    rw [Rz] at sz
    obtain ⟨b, dy, gs, rfl, e5, e6, e7⟩ := sz
    cases hF : M c with
    | none => rw [hF] at q2; exact q2.elim
    | some F =>
      rw [hF] at q2
      dsimp only at q2
      by_cases hp : okP neg Pr c c' = true
      · rw [if_pos hp] at q2
        refine .inr ⟨c, c', F, a, b, dx, dy, fs, gs, hF, ?_, rfl, rfl, k2.sub _ _ e2, k2.sub _ _ e5, rfl, G2, [.val (.ins c xs), .val (.ins c' ys)], k2.tab, k2.sub, ⟨rz', sz', trivial⟩, fun i j t u o p a h => ?_, ?_⟩
        · cases neg with
          | true => simpa [okP] using hp
          | false => simpa [okP] using hp
        · cases i with
          | zero => simp at h
          | succ i => cases i <;> simp at h
        · split at q2
          · rename_i outs r' e
            rw [e]
            intro w G3 H3 rt rz2
            rw [Rz] at rz2
            refine ⟨r', rz2, ?_⟩
            obtain ⟨k3, f3⟩ := back_val2 k2 rv2 h1 ry h2 rt
            have ef : (if neg = true then !r' else r') = flp neg r' := by cases neg <;> rfl
            rw [ef]
            exact q2 G3 H3 k3 f3 _ Rz.bl_
          · exact q2.elim
      · rw [if_neg hp] at q2; exact q2.elim
  · split at q2
    · rename_i a b h1 h2
      cases h3 : (if neg then neD else eqD) a b with
      | none => rw [h3] at q2; exact q2.elim
      | some d =>
        rw [h3] at q2
        exact .inl (hr v y a b d G2 H2 Q k2.sub (k2.resolve rv2 h1) (k2.resolve ry h2) h3 fun z G3 H3 n rz => q2 G3 H3 (k2.new n) n.fr z rz)
    · exact q2.elim
theorem de_eqM {M : Nat → Option CF} {Pr : Nat → Nat → Bool} {a b : Expr} {oa ob : DOn} (O : QOk X T M Pr) (hu : X.A.units + 64 < cLine) (ha : DO X T W a oa) (hb : DO X T W b ob) (hm : behindInMarks .Eq b = false := by first | exact nomark _ | rfl) :
    DE X T W (.Compare a [.Eq] [b] pos) (dEqM false M Pr oa ob) := PE.imp (pe_cmpR (OpR.or (op_eqD hu) (op_eqI O)) ha hb hm) fun σ H Q q => tEqM_of s_eq σ H Q q
theorem de_neM {M : Nat → Option CF} {Pr : Nat → Nat → Bool} {a b : Expr} {oa ob : DOn} (O : QOk X T M Pr) (hu : X.A.units + 64 < cLine) (ha : DO X T W a oa) (hb : DO X T W b ob) (hm : behindInMarks .NotEq b = false := by first | exact nomark _ | rfl) :
    DE X T W (.Compare a [.NotEq] [b] pos) (dEqM true M Pr oa ob) := PE.imp (pe_cmpR (OpR.or (op_neD hu) (op_neI O)) ha hb hm) fun σ H Q q => tEqM_of s_ne σ H Q q
theorem dt_eqM {M : Nat → Option CF} {Pr : Nat → Nat → Bool} {a b : Expr} {oa ob : DOn} (O : QOk X T M Pr) (hu : X.A.units + 64 < cLine) (ha : DO X T W a oa) (hb : DO X T W b ob) (hm : behindInMarks .Eq b = false := by first | exact nomark _ | rfl) :
    DT X T W (.Compare a [.Eq] [b] pos) (dBl (dEqM false M Pr oa ob)) := PT.imp (pt_cmpR (OpR.or (op_eqD hu) (op_eqI O)) ha hb hm) fun σ H Q q => tTest_of (fun _ _ _ => tEqM_of s_eq _ _ _) σ H Q q
theorem dt_neM {M : Nat → Option CF} {Pr : Nat → Nat → Bool} {a b : Expr} {oa ob : DOn} (O : QOk X T M Pr) (hu : X.A.units + 64 < cLine) (ha : DO X T W a oa) (hb : DO X T W b ob) (hm : behindInMarks .NotEq b = false := by first | exact nomark _ | rfl) :
    DT X T W (.Compare a [.NotEq] [b] pos) (dBl (dEqM true M Pr oa ob)) := PT.imp (pt_cmpR (OpR.or (op_neD hu) (op_neI O)) ha hb hm) fun σ H Q q => tTest_of (fun _ _ _ => tEqM_of s_ne _ _ _) σ H Q q
end
end Zd
end
section
/-! Zd 26: dicts of ints and texts: displays, d[k]. -/
namespace Zd
open PySem PySem.Spec PyProof.Rows L2
set_option autoImplicit false
theorem mergeK_app {α : Type} : ∀ {more acc : List (Key × V)}, (more.map (·.1)).Nodup → (∀ p ∈ more, ∀ q ∈ acc, q.1 ≠ p.1) → mergeK acc more = acc ++ more
  | [], acc, _, _ => by simp [mergeK]
  | p :: more, acc, nd, h => by
    have e : putK acc p.1 p.2 = acc ++ [p] := by
      unfold putK
      rw [if_neg (fun z => by
        rw [List.any_eq_true] at z
        obtain ⟨q, h1, h2⟩ := z
        exact h p List.mem_cons_self q h1 (by simpa using h2))]
    show mergeK (putK acc p.1 p.2) more = _
    rw [List.map_cons, List.nodup_cons] at nd
    rw [e, mergeK_app (α := α) nd.2 (fun q hq r hr => by
      rcases List.mem_append.mp hr with hr | hr
      · exact h q (List.mem_cons_of_mem _ hq) r hr
      · rw [List.mem_singleton.mp hr]
        exact fun z => nd.1 (List.mem_map.mpr ⟨q, hq, z.symm⟩))]
    simp
def nodupK : List Key → Bool
  | [] => true
  | k :: ks => !(ks.any fun q => decide (q = k)) && nodupK ks
theorem nodupK_of : ∀ {ks : List Key}, nodupK ks = true → ks.Nodup
  | [], _ => List.nodup_nil
  | k :: ks, h => by
    simp only [nodupK, Bool.and_eq_true, Bool.not_eq_true', List.any_eq_false, decide_eq_true_iff] at h
    exact List.nodup_cons.mpr ⟨fun z => h.1 k z rfl, nodupK_of h.2⟩
def dDict (ks : List Key) (a : DAn) : DEn := fun ρ => (a ρ).bind fun p => match vals p.2 with
  | some ds => if ds.length = ks.length then .ok (p.1, .dct ks ds) else .bad
  | none => .bad
section
variable {X : Cx} {T : Tab} {W : WX} {pos : Pos}
structure DKs (X : Cx) (T : Tab) (W : WX) (keys : List (Option Expr)) (values : List Expr) (ks : List Key) (a : DAn) : Prop where
  ex : ∃ trs, (∀ pos, PPs X pos keys values trs) ∧ ∀ σ H Q, tA X.K T W a σ H (fun vs H' => Q ((ks.map kV).zip vs) H') → tPairs trs σ H Q
theorem dks_nil : DKs X T W [] [] [] aNil := ⟨[], fun _ => pps_nil, fun σ H Q q => by
  obtain ⟨τ, ρ, G, k, q⟩ := q
  exact q G H k Fr.refl [] True.intro (fun j od e => by simp at e)⟩
theorem dks_cons {ke ve : Expr} {kes : List (Option Expr)} {ves : List Expr} {k : Key} {ks : List Key} {d : DEn} {a : DAn} (hk : PE X ke (tC (kV k))) (hv : DE X T W ve d) (r : DKs X T W kes ves ks a) : DKs X T W (some ke :: kes) (ve :: ves) (k :: ks) (aCons (oV d) a) := by
  obtain ⟨trs, h1, h2⟩ := r.ex
  refine ⟨(tC (kV k), tE X.K T W d) :: trs, fun pos => pps_cons hk hv (h1 pos), fun σ H Q q => ?_⟩
  obtain ⟨τ, ρ, G, k0, q⟩ := q
  refine ⟨τ, ρ, G, k0, (Out.bind (Out.bind q)).imp fun ρ1 r1 G1 H1 k1 fr1 q1 v rv => h2 σ H1 _ ⟨τ, ρ1, G1, k1, (Out.bind (q1 G1 H1 k1 Fr.refl)).imp fun ρ2 ops G2 H2 k2 fr2 q2 vs rvs fvs => ?_⟩⟩
  exact q2 G2 H2 k2 Fr.refl (v :: vs) ⟨rv.mono fr2.gro, rvs, fun _ z => nomatch z⟩ fun j od e => by
    cases j with
    | zero => simp at e
    | succ j =>
      rw [List.getElem?_cons_succ] at e
      obtain ⟨b, e1, e2⟩ := fvs j od e
      exact ⟨b, by rw [List.getElem?_cons_succ]; exact e1, fr1.free e2⟩
theorem zip_keys : ∀ {ks : List Key} {vs : List V}, ks.length = vs.length → (ks.zip vs).map (·.1) = ks ∧ (ks.zip vs).map (·.2) = vs ∧ (ks.map kV).zip vs = (ks.zip vs).map fun kv => (kV kv.1, kv.2)
  | [], [], _ => ⟨rfl, rfl, rfl⟩
  | k :: ks, v :: vs, h => by
    obtain ⟨h1, h2, h3⟩ := zip_keys (ks := ks) (vs := vs) (by simpa using h)
    exact ⟨by simp [h1], by simp [h2], by simp [h3]⟩
  | [], _ :: _, h => by simp at h
  | _ :: _, [], h => by simp at h
theorem de_dict {keys : List (Option Expr)} {values : List Expr} {ks : List Key} {a : DAn} (h : DKs X T W keys values ks a) (hall : keys.all (·.isSome) = true := by rfl) (hl : keys.length = values.length := by rfl) (h0 : keys ≠ [] := by simp) (h15 : keys.length ≤ 15 := by decide) (hk : keys.length = ks.length := by rfl) (nd : nodupK ks = true := by decide) :
    DE X T W (.Dict keys values pos) (dDict ks a) := by
  obtain ⟨trs, h1, h2⟩ := h.ex
  refine PE.imp (pe_disp (h1 pos) hall hl h0 h15) fun σ H Q q => ?_
  obtain ⟨τ, ρ, G, k, q⟩ := q
  intro p hp
  have n := New.loose (T := T) (o := .dK []) k.sub hp
  have noP : ¬ OwnAt ρ σ p := fun z => by
    obtain ⟨u, hu⟩ := own_there k z
    rw [hp] at hu; cases hu
  refine h2 σ _ _ ⟨τ, ρ, G, k.new n, (Out.shift n.fr (Out.bind0 q)).imp fun ρ1 ops G2 H2 k2 fr2 q2 vs rvs fvs => ?_⟩
  obtain ⟨e1, e2, e3⟩ := fr2.keep p _ upd_same nt_dK noP
  dsimp only at q2
  split at q2
  · rename_i ds hv
    have rz := rz_vals rvs hv
    by_cases hd : ds.length = ks.length
    · rw [if_pos hd] at q2
      obtain ⟨z1, z2, z3⟩ := zip_keys (ks := ks) (vs := vs) (by rw [rz.len, hd])
      have zm : mergeK [] (ks.zip vs) = ks.zip vs := by
        rw [mergeK_app (α := Unit) (by rw [z1]; exact nodupK_of nd) (fun _ _ q hq => by cases hq)]
        rfl
      refine ⟨e1, ks.zip vs, z3, ?_, ?_⟩
      · have : (ks.zip vs).length = ks.length := by rw [← List.length_map (f := (·.1)), z1]
        omega
      · rw [zm]
        have g2 : G2 p = none := e2.trans (k.sub.free hp)
        have ro : RO X.K T G2 (upd H2 p (.dK (ks.zip vs))) p (.dct ks ds) := ⟨_, upd_same, z1, by rw [z2]; exact rz⟩
        have ro0 : RO X.K T G2 H2 p (.dct [] []) := ⟨[], e1, rfl, by simpa using RzL.nil⟩
        have k3 := k2.updOff (u := .dK (ks.zip vs)) g2 e3 (ro0.tabsG k2.tab)
        obtain ⟨b, u, eb, gb, rzb, k4⟩ := k3.freezeFr (v := .ref p) (o := .dct ks ds) ⟨p, rfl, g2, ro, e3⟩
        cases eb
        exact q2 _ _ k4 (((n.fr.trans fr2).updNew hp).freeze hp gb) _ rzb
    · rw [if_neg hd] at q2; exact q2.elim
  · exact q2.elim
/-! ### d[k] -/
def keyD : D → Option Key
  | .int i => some (.inl i)
  | .str s => some (.inr s)
  | _ => none
def getK : List Key → List D → Key → Option D
  | k :: ks, d :: ds, q => if k = q then some d else getK ks ds q
  | _, _, _ => none
def ixD2 (x y : D) : Option D := match x with
  | .dct ks ds => (keyD y).bind (getK ks ds)
  | _ => ixD x y
theorem getK_val {K : PySem.W.Frag} {G : Hp} {q : Key} : ∀ {kvs : List (Key × V)} {ks : List Key} {ds : List D} {d : D}, kvs.map (·.1) = ks → RzL K T G (kvs.map (·.2)) ds → getK ks ds q = some d → ∃ v, valV kvs q = some v ∧ Rz K T G v d
  | [], ks, ds, d, h1, h2, h3 => by subst h1; cases ds <;> cases h3
  | p :: kvs, ks, ds, d, h1, h2, h3 => by
    subst h1
    rw [List.map_cons] at h2
    cases ds with
    | nil => cases h3
    | cons e ds =>
      rw [RzL] at h2
      rw [List.map_cons] at h3
      unfold getK at h3
      by_cases hq : p.1 = q
      · rw [if_pos hq] at h3
        cases h3
        exact ⟨p.2, valV_pos hq, h2.1⟩
      · rw [if_neg hq] at h3
        obtain ⟨v, e1, e2⟩ := getK_val rfl h2.2 h3
        exact ⟨v, (valV_neg hq).trans e1, e2⟩
theorem PE.orElse {e : Expr} {t1 t2 t : TE} (h1 : PE X e t1) (h2 : PE X e t2) (h : ∀ σ H Q, t σ H Q → t1 σ H Q ∨ t2 σ H Q) : PE X e t := ⟨fun pins s σ H Q I q => (h σ H Q q).elim (h1.run pins s σ H Q I) (h2.run pins s σ H Q I)⟩
theorem d2_same {oo oi : DOn} {ρ : Env} (h : ¬ ∃ p q ks ds, oo ρ = .ok p ∧ oi p.1 = .ok q ∧ res q.1 p.2 = some (.dct ks ds)) : d2 ixD2 oo oi ρ = d2 ixD oo oi ρ := by
  unfold d2
  cases e1 : oo ρ with
  | bad => rfl
  | ex ρ' x => rfl
  | ok p =>
    dsimp only [R.bind]
    cases e2 : oi p.1 with
    | bad => rfl
    | ex ρ' x => rfl
    | ok q =>
      dsimp only
      cases e3 : res q.1 p.2 with
      | none => rfl
      | some x =>
        cases e4 : res q.1 q.2 with
        | none => rfl
        | some y =>
          have : ixD2 x y = ixD x y := by
            cases x with
            | dct ks ds => exact absurd ⟨p, q, ks, ds, e1, e2, e3⟩ h
            | _ => rfl
          dsimp only
          rw [this]
theorem de_ix2 {o i : Expr} {oo oi : DOn} (hu : X.A.units + 1 < cLine) (h : DO X T W o oo) (hi : DO X T W i oi) (hs : PlainIx i := by exact fun _ _ => rfl) (hs2 : NoSl i := by exact fun _ _ => rfl) : DE X T W (.Subscript o i pos) (d2 ixD2 oo oi) := by
  refine PE.orElse (pe_ix ix_seq h hi hs) (pe_dget hu h hi hs2) fun σ H Q q => ?_
  obtain ⟨τ, ρ, G, k, q⟩ := q
  by_cases hd : ∃ p q ks ds, oo ρ = .ok p ∧ oi p.1 = .ok q ∧ res q.1 p.2 = some (.dct ks ds)
  · obtain ⟨p, p', ks, ds, h1, h2, h3⟩ := hd
    have q0 := Out.bind q
    refine .inr ⟨τ, ρ, G, k, ?_⟩
    rw [h1] at q0 ⊢
    intro G1 H1 k1 fr1 v rv fv
    have q2 := Out.bind (q0 G1 H1 k1 fr1)
    refine ⟨τ, p.1, G1, k1, ?_⟩
    rw [h2] at q2 ⊢
    intro G2 H2 k2 fr2 y ry fy
    have q3 := q2 G2 H2 k2 fr2
    dsimp only at q3
    rw [h3] at q3
    cases e4 : res p'.1 p'.2 with
    | none => rw [e4] at q3; exact q3.elim
    | some yd =>
      rw [e4] at q3
      dsimp only at q3
      cases e5 : ixD2 (.dct ks ds) yd with
      | none => rw [e5] at q3; exact q3.elim
      | some d =>
        rw [e5] at q3
        obtain ⟨a, kvs, rfl, hH, hk, hz⟩ := Rb.dct k2.sub (k2.resolve (rv.fr fr2) h3)
        have ry2 := k2.resolve ry e4
        obtain ⟨key, e6, e7⟩ := two_some (show (keyD yd).bind (getK ks ds) = some d from e5)
        have ey : y = kV key := by
          cases yd <;> cases e6
          · exact ry2.int
          · exact ry2.str
        obtain ⟨w, e8, e9⟩ := getK_val hk hz e7
        subst ey
        exact ⟨a, w, rfl, .inl ⟨kvs, key, .inl hH, rfl, e8.symm⟩, q3 G2 H2 k2 Fr.refl w e9⟩
  · rw [d2_same hd] at q
    exact .inl (tOp_of snd_ix σ H Q ⟨τ, ρ, G, k, q⟩)
end
end Zd
end
section
/-! Zd 27: t.count(x); sorted(..) of ints, of pairs of ints. -/
namespace Zd
open PySem PySem.Spec PyProof.Rows L2
set_option autoImplicit false
/-! ### count -/
def rCntD (K : PySem.W.Frag) : V → List V → Hp → VK → Prop := fun x xs H Q => ∃ (p : Addr) (y : V) (d : PyData) (ds : List PyData), x = .ref p ∧ xs = [y] ∧ Dp K H y d ∧ Dp K H (.ref p) (.tuple ds) ∧ SeqAt.shaped d = true ∧ PyData.canLayAll0 ds = true ∧ Q (.int ((ds.countP fun z => PyData.eqv z d) : Nat)) H
theorem countP_by {h : Heap} {vs : Array Value} {xs : List PyData} {as : List Addr} {d : PyData} (rs : PySem.ReadsAll h vs.toList xs as) (hxs : PyData.canLayAll0 xs = true) : vs.toList.countP (fun y => PyData.eqv (SeqAt.readOf h y) d) = xs.countP fun y => PyData.eqv y d := by
  rw [← SeqAt.readsAll_map xs _ _ hxs rs, List.countP_map]
  rfl
theorem mt_cntD {X : Cx} (hu : X.A.units + 65 < cLine) : MtR X "tuple.count" (rCntD X.K) := by
  intro pins s σ H x xs v us Q I rx rs h
  obtain ⟨p, y, d, ds, rfl, rfl, hd, hds, sd, sc, q⟩ := h
  cases rx
  obtain ⟨u, rfl, ru⟩ := vals1 rs
  obtain ⟨as, r1⟩ := Dp.reads I d y u hd ru
  obtain ⟨bs, r2⟩ := Dp.reads I (.tuple ds) (.ref p) (.ref p) hds rfl
  cases r2 with
  | tuple w1 w2 w3 w4 =>
    rename_i o n its
    obtain ⟨oc, od, dt, sl⟩ := o
    simp only at w2 w3
    subst w2 w3
    refine call_meets PySem.F.slot_tuple_count ⟨_, w1, rfl⟩ PySem.F.entry_tuple_count (PySem.F.args_tuple_count_2 _ _) (SeqAt.tuple_countAt p _ _ od sl u (fun z => PyData.eqv (SeqAt.readOf s.heap z) d))
      ⟨w1, SeqAt.items_eqAt w4 r1 sc (SeqAt.canLay_of_shaped sd) (room_in_shaped sd hu), .int ((ds.countP fun z => PyData.eqv z d) : Nat), H, I.tok _, ⟨s.toks, ?_⟩, q⟩
    rw [countP_by w4 sc]
/-- t.count(x) -/
def countD : List D → List D → Option D
  | ds, [y] => if y.fine = true ∧ D.flats ds = true then some (.int ((ds.countP fun z => z.eqb y) : Nat)) else none
  | _, _ => none
theorem countP_py {x : D} (hx : x.flat = true) : ∀ {ds : List D}, D.flats ds = true → ((D.pys ds).countP fun z => PyData.eqv z x.py) = ds.countP fun z => z.eqb x
  | [], _ => rfl
  | d :: ds, h => by
    simp only [D.flats, Bool.and_eq_true] at h
    rw [D.pys, List.countP_cons, List.countP_cons, countP_py hx h.2, eqb_py d x h.1 hx]
theorem snd_count {K : PySem.W.Frag} {T : Tab} : SndM K T (rCntD K) countD := fun a xs ds vs es d G H Q s hq r rb e q => by
  unfold countD at e
  split at e
  · rename_i y
    obtain ⟨v, rfl, r1⟩ := rb.one
    split at e
    · rename_i h
      cases e
      refine ⟨a, v, y.py, D.pys ds, rfl, rfl, r1.dp s (D.fine_flat h.1), .tup (Same.tup s hq.t) (dps_of s ds h.2 r), fine_shaped h.1, flats_lay ds h.2, ?_⟩
      rw [countP_py (D.fine_flat h.1) h.2]
      exact q _ G H (New.refl s) Rz.int_
    · cases e
  · cases e
/-! ### sorted -/
def insO {α : Type} (lt : α → α → Bool) (x : α) : List α → List α
  | [] => [x]
  | y :: l => if lt y x then y :: insO lt x l else x :: y :: l
def sortO {α : Type} (lt : α → α → Bool) : List α → List α
  | [] => []
  | x :: l => insO lt x (sortO lt l)
section
variable {α : Type} {lt : α → α → Bool}
theorem insO_perm (x : α) : ∀ l : List α, (insO lt x l).Perm (x :: l)
  | [] => .refl _
  | y :: l => by
    unfold insO
    split
    · exact (List.Perm.cons y (insO_perm x l)).trans (List.Perm.swap x y l)
    · exact .refl _
theorem sortO_perm : ∀ l : List α, (sortO lt l).Perm l
  | [] => .refl _
  | x :: l => (insO_perm x _).trans (List.Perm.cons x (sortO_perm l))
theorem insO_srt (as : ∀ x y, lt x y = true → lt y x = false) (tr : ∀ x y z, lt y x = false → lt z y = false → lt z x = false) (x : α) : ∀ l : List α, l.Pairwise (fun a b => lt b a = false) → (insO lt x l).Pairwise (fun a b => lt b a = false)
  | [], _ => List.pairwise_singleton _ _
  | y :: l, h => by
    rw [List.pairwise_cons] at h
    unfold insO
    split
    · rename_i hy
      refine List.pairwise_cons.mpr ⟨fun z hz => ?_, insO_srt as tr x l h.2⟩
      rcases List.mem_cons.mp ((insO_perm x l).mem_iff.mp hz) with e | hz
      · rw [e]; exact as _ _ hy
      · exact h.1 z hz
    · rename_i hy
      have hy : lt y x = false := by simpa using hy
      refine List.pairwise_cons.mpr ⟨fun z hz => ?_, List.pairwise_cons.mpr h⟩
      rcases List.mem_cons.mp hz with e | hz
      · rw [e]; exact hy
      · exact tr _ _ _ hy (h.1 z hz)
theorem sortO_srt (as : ∀ x y, lt x y = true → lt y x = false) (tr : ∀ x y z, lt y x = false → lt z y = false → lt z x = false) : ∀ l : List α, (sortO lt l).Pairwise (fun a b => lt b a = false)
  | [] => List.Pairwise.nil
  | x :: l => insO_srt as tr x _ (sortO_srt as tr l)
theorem srt_uniq (anti : ∀ x y, lt x y = false → lt y x = false → x = y) : ∀ {l m : List α}, l.Perm m → l.Pairwise (fun a b => lt b a = false) → m.Pairwise (fun a b => lt b a = false) → l = m
  | [], m, p, _, _ => (List.Perm.nil_eq p)
  | x :: l, [], p, _, _ => absurd p.length_eq (by simp)
  | x :: l, y :: m, p, h1, h2 => by
    rw [List.pairwise_cons] at h1 h2
    have e : x = y := by
      rcases List.mem_cons.mp (p.mem_iff.mp (List.mem_cons_self (a := x) (l := l))) with e | hx
      · exact e
      · rcases List.mem_cons.mp (p.mem_iff.mpr (List.mem_cons_self (a := y) (l := m))) with e | hy
        · exact e.symm
        · exact anti x y (h2.1 x hx) (h1.1 y hy)
    subst e
    rw [srt_uniq anti (List.Perm.cons_inv p) h1.2 h2.2]
end
def ltI (i j : Int) : Bool := decide (i < j)
abbrev sortI (l : List Int) : List Int := sortO ltI l
abbrev sortP (l : List (Int × Int)) : List (Int × Int) := sortO SrtO.lexB l
theorem sortI_uniq {l m : List Int} (p : l.Perm m) (h : l.Pairwise (· ≤ ·)) : l = sortI m := by
  refine srt_uniq (lt := ltI) (fun x y h1 h2 => ?_) (p.trans (sortO_perm m).symm) (h.imp fun {a b} h => ?_) (sortO_srt (fun x y h => ?_) (fun x y z h1 h2 => ?_) m)
  all_goals simp only [ltI, decide_eq_false_iff_not, decide_eq_true_iff] at *
  all_goals omega
theorem sortP_uniq {l m : List (Int × Int)} (p : l.Perm m) (h : l.Pairwise (fun a b => SrtO.lexB b a = false)) : l = sortP m := by
  refine srt_uniq (lt := SrtO.lexB) (fun x y h1 h2 => ?_) (p.trans (sortO_perm m).symm) h (sortO_srt (fun x y h => ?_) (fun x y z h1 h2 => ?_) m)
  · rw [SrtO.lexB_no] at h1 h2
    ext <;> omega
  · rw [SrtO.lexB_iff] at h
    rw [SrtO.lexB_no]
    omega
  · rw [SrtO.lexB_no] at h1 h2 ⊢
    omega
def prD (p : Int × Int) : D := .tup [.int p.1, .int p.2]
def pairsD : List D → Option (List (Int × Int))
  | [] => some []
  | .tup [.int i, .int j] :: ds => (pairsD ds).map ((i, j) :: ·)
  | _ => none
def lstOf : D → Option (List D)
  | .lst ds => some ds
  | .frz ds => some ds
  | _ => none
def sortedD : List D → Option D
  | [d] => (lstOf d).bind fun ds => match intsD ds with
    | some ns => some (.lst ((sortI ns).map .int))
    | none => (pairsD ds).map fun ps => .lst ((sortP ps).map prD)
  | _ => none
def rSortedPZ (K : PySem.W.Frag) : List V → Hp → VK → Prop := fun vs H Q => ∃ (a : Addr) (xs : List V) (ps : List (Int × Int)), vs = [V.ref a] ∧ SqL K H a xs ∧ xs.length = ps.length ∧ (∀ (i : Nat) x p, xs[i]? = some x → ps[i]? = some p → ∃ t, x = V.ref t ∧ SqT K H t [.int p.1, .int p.2]) ∧
  ∀ (ys : List V) (p : Addr) (k : V → Int × Int), xs.map k = ps → (ys.map k).Pairwise (fun a b => SrtO.lexB b a = false) → ys.Perm xs → H p = none → Q (.ref p) (upd H p (.lst ys))
theorem cr_sortedPZ {X : Cx} : CallR X (.builtin "sorted") (rSortedPZ X.K) := by
  intro pins s σ H vs us Q I r h
  obtain ⟨a, xs, ps, rfl, hs, hl, hx, q⟩ := h
  obtain ⟨its, rv, hL, hz⟩ := I.list hs
  obtain ⟨u, rfl, ru⟩ := vals1 r
  obtain rfl : u = Value.ref a := ru
  have at_ : ∀ x ∈ xs, ∃ (i : Nat) (p : Int × Int) (t : Addr), xs[i]? = some x ∧ ps[i]? = some p ∧ x = V.ref t ∧ SqT X.K H t [.int p.1, .int p.2] := fun x m => by
    obtain ⟨i, hi, e⟩ := List.mem_iff_getElem.mp m
    have h1 : xs[i]? = some x := by rw [List.getElem?_eq_getElem hi, e]
    have h2 : ps[i]? = some ps[i] := List.getElem?_eq_getElem (by omega)
    obtain ⟨t, e1, e2⟩ := hx i x _ h1 h2
    exact ⟨i, _, t, h1, h2, e1, e2⟩
  obtain ⟨e1, e2⟩ := refs_back rv fun x m => by
    obtain ⟨_, _, t, _, _, e, _⟩ := at_ x m
    exact ⟨t, e⟩
  -- what pair stands at a value
  classical
  let k : V → Int × Int := fun x => if h : ∃ p : Int × Int, ∃ t, x = V.ref t ∧ SqT X.K H t [.int p.1, .int p.2] then h.choose else (0, 0)
  have kx : ∀ (x : V) (t : Addr) (p : Int × Int), x = V.ref t → SqT X.K H t [.int p.1, .int p.2] → k x = p := fun x t p ex hp => by
    have ex0 : ∃ p : Int × Int, ∃ t, x = V.ref t ∧ SqT X.K H t [.int p.1, .int p.2] := ⟨p, t, ex, hp⟩
    show (if h : ∃ p : Int × Int, ∃ t, x = V.ref t ∧ SqT X.K H t [.int p.1, .int p.2] then h.choose else (0, 0)) = p
    rw [dif_pos ex0]
    obtain ⟨t', f1, f2⟩ := ex0.choose_spec
    rw [ex] at f1
    cases f1
    have := I.tuple_inj f2 hp
    simp only [List.cons.injEq, V.int.injEq, and_true] at this
    exact Prod.ext this.1 this.2
  have km : xs.map k = ps := by
    apply List.ext_getElem? 
    intro i
    rw [List.getElem?_map]
    by_cases hi : i < xs.length
    · have h1 : xs[i]? = some xs[i] := List.getElem?_eq_getElem hi
      have h2 : ps[i]? = some ps[i] := List.getElem?_eq_getElem (by omega)
      obtain ⟨t, f1, f2⟩ := hx i _ _ h1 h2
      rw [h1, h2, Option.map_some, kx _ t _ f1 f2]
    · rw [List.getElem?_eq_none (by omega), List.getElem?_eq_none (by omega)]
      rfl
  refine SrtO.sorted_pairsO (k := fun u => k (backV u)) hL.isList (by rw [← rv.length]; exact hz) (fun v hv => ?_) fun h' d out h1 h2 kp hd hn => ?_
  · obtain ⟨t, rfl⟩ := e2 v hv
    have hm : V.ref t ∈ xs := by rw [e1]; exact List.mem_map.mpr ⟨_, hv, rfl⟩
    obtain ⟨_, p, t', _, _, f1, f2⟩ := at_ _ hm
    cases f1
    have ek : k (backV (.ref t)) = p := kx _ t p rfl f2
    obtain ⟨its2, r2, ⟨o, ho, hc, n, hd⟩, _⟩ := I.tuple f2
    obtain ⟨u1, u2, rfl, ri, rj⟩ := vals2 r2
    obtain ⟨t1, rfl⟩ := ri
    obtain ⟨t2, rfl⟩ := rj
    rw [ek]
    exact ⟨t, o, t1, t2, n, rfl, ho, hc, hd⟩
  · have h3 : ∀ u ∈ out, ∃ a, u = Value.ref a := fun u hu => e2 u (h2.perm.mem_iff.mp hu)
    obtain ⟨n, hn⟩ := hn
    have hp : (out.map backV).Perm xs := by
      rw [e1]
      exact h2.perm.map backV
    refine ⟨.ref d, upd H d (.lst (out.map backV)), I.laid (t' := s.toks) kp hd ⟨?_, out, n, vals_back h3, hn⟩, rfl, q _ d k km ?_ hp (I.hok.fresh hd)⟩
    · rw [hp.length_eq]
      exact hz
    · rw [List.map_map]
      exact List.pairwise_map.mpr h1
theorem pairs_get : ∀ {ds : List D} {ps : List (Int × Int)}, pairsD ds = some ps → ds = ps.map prD
  | [], ps, h => by cases h; rfl
  | d :: ds, ps, h => by
    unfold pairsD at h
    split at h
    · rename_i e
      cases e
    · rename_i i j ds' e
      cases e
      obtain ⟨qs, h1, rfl⟩ := map_some' h
      rw [pairs_get h1]
      rfl
    · cases h
theorem rz_list {K : PySem.W.Frag} {T : Tab} {G : Hp} {α : Type} (f : α → D) (k : V → α) : ∀ {ys : List V}, (∀ y ∈ ys, Rz K T G y (f (k y))) → RzL K T G ys ((ys.map k).map f)
  | [], _ => RzL.nil
  | y :: ys, h => RzL.cons (h y List.mem_cons_self) (rz_list f k fun z hz => h z (List.mem_cons_of_mem _ hz))
theorem Rb.lstOf {K : PySem.W.Frag} {T : Tab} {G H : Hp} {v : V} {d : D} {ds : List D} (s : Same G H) (h : Rb K T G H v d) (e : lstOf d = some ds) : ∃ a xs, v = .ref a ∧ SqL K H a xs ∧ RzL K T G xs ds := by
  cases d with
  | lst es =>
    cases e
    obtain ⟨a, xs, e1, e2, e3⟩ := Rb.lst s h
    exact ⟨a, xs, e1, SqL.of e2, e3⟩
  | frz es =>
    cases e
    obtain ⟨a, xs, e1, e2, e3⟩ := Rb.frz s h
    exact ⟨a, xs, e1, e2, e3⟩
  | _ => cases e
theorem snd_sorted {K : PySem.W.Frag} {T : Tab} : SndL K T (fun vs H Q => rSortedI K vs H Q ∨ rSortedPZ K vs H Q) sortedD := fun vs ds d G H Q s rb e q => by
  unfold sortedD at e
  split at e
  · rename_i d'
    obtain ⟨v, rfl, r⟩ := rb.one
    obtain ⟨es, h1, e⟩ := two_some e
    obtain ⟨a, xs, rfl, hs, rz⟩ := r.lstOf s h1
    split at e
    · rename_i ns h2
      cases e
      have := ints_rz rz h2
      subst this
      refine .inl ⟨a, ns, rfl, hs, fun ns' p hp hw hn => ?_⟩
      have e2 := sortI_uniq hp hw
      subst e2
      have n := New.one (T := T) (o := .lst ((sortI ns).map V.int)) s hn
      exact q _ _ _ n (Rz.lst_ upd_same ((rz_ints _).mono n.gro))
    · obtain ⟨ps, h2, rfl⟩ := map_some' e
      have h3 := pairs_get h2
      subst h3
      refine .inr ⟨a, xs, ps, rfl, hs, by rw [rz.len, List.length_map], fun i x p hx hp => ?_, fun ys p k hk hw hpm hn => ?_⟩
      · have : (ps.map prD)[i]? = some (prD p) := by rw [List.getElem?_map, hp]; rfl
        obtain ⟨w, f1, f2⟩ := rz.get this
        rw [hx] at f1
        cases f1
        unfold prD at f2
        rw [Rz] at f2
        obtain ⟨t, zs, e1, e2, e3⟩ := f2
        obtain ⟨z1, r1, rfl, g1, e3⟩ := e3.cons_inv
        obtain ⟨z2, r2, rfl, g2, e3⟩ := e3.cons_inv
        have := e3.nil_inv
        subst this
        rw [Rz] at g1 g2
        subst g1 g2
        exact ⟨t, e1, Same.tup s e2.t⟩
      · have e2 := sortP_uniq (m := ps) (by rw [← hk]; exact hpm.map k) hw
        have n := New.one (T := T) (o := .lst ys) s hn
        refine q _ _ _ n (Rz.lst_ upd_same ?_)
        rw [← e2]
        refine (rz_list prD k fun y hy => ?_).mono n.gro
        have hy' := hpm.mem_iff.mp hy
        obtain ⟨i, hi, e⟩ := List.mem_iff_getElem.mp hy'
        have g1 : xs[i]? = some y := by rw [List.getElem?_eq_getElem hi, e]
        have g2 : (ps.map prD)[i]? = some (prD (k y)) := by rw [← hk, List.getElem?_map, List.getElem?_map, g1]; rfl
        obtain ⟨w, f1, f2⟩ := rz.get g2
        rw [g1] at f1
        cases f1
        exact f2
  · cases e
end Zd
end
section
/-! Zd 28: what the printed texts of laws with refusals lean on. -/
namespace Zd
open PySem PySem.Spec PyProof.Rows L2 LamX
set_option autoImplicit false
section
variable {P : Program} {w : World} {K : PySem.W.Frag} {mg : Str → Option Value} {base : Heap} {N : List Str} {qual : Str} {scope : Scope} {f : Addr} {cd : Value} {A : Around} {outer : List PySem.Env} {s : Shared} {H : Hp} {E : XK}
theorem tk_cx : Takes (cxOf (L2.CX P w) P w K mg base N qual scope f cd A outer s H E) (WB E) := takes_of rfl rfl rfl rfl
theorem px_lam {X : Cx} {scp : Scope} {c' : Addr} : Psx (lamCx X A outer s H E scp f c') (WB E) E := psx_of (takes_of rfl rfl rfl rfl)
end
/-! ### exceptions: what the head tells -/
structure ExcF (K : PySem.W.Frag) (x : Str) (ns : List Str) : Prop where
  C : OexC K (He.ga K x)
  no : ∀ f ∈ ns, PySem.W.findIn K (.ref (He.ga K x)) f = some none
  init : PySem.W.findIn K (.ref (He.ga K x)) "__init__" = some (some (.ref (He.ma K (He.ga K x) "__init__")))
  ty : PySem.W.typeIn K (.ref (He.ma K (He.ga K x) "__init__")) = some (.type "function")
  xf : XfC K (He.ga K x)
  exm : PySem.W.exmOne K (.ref (He.ga K x)) (.ref (He.ga K x)) = some true
def excFB (x : Str) (ns : List Str) (K : PySem.W.Frag) : Bool := oexB K (He.ga K x) && (ns.all (fun f => decide (PySem.W.findIn K (.ref (He.ga K x)) f = some none)) && (He.eqO (PySem.W.findIn K (.ref (He.ga K x)) "__init__") (some (some (.ref (He.ma K (He.ga K x) "__init__")))) &&
  (decide (PySem.W.typeIn K (.ref (He.ma K (He.ga K x) "__init__")) = some (.type "function")) && (xfB K (He.ga K x) && decide (PySem.W.exmOne K (.ref (He.ga K x)) (.ref (He.ga K x)) = some true)))))
theorem excF_ok {K : PySem.W.Frag} {x : Str} {ns : List Str} (h : excFB x ns K = true) : ExcF K x ns := by
  obtain ⟨h1, h⟩ := He.ba h
  obtain ⟨h2, h⟩ := He.ba h
  obtain ⟨h3, h⟩ := He.ba h
  obtain ⟨h4, h⟩ := He.ba h
  obtain ⟨h5, h6⟩ := He.ba h
  exact ⟨oexB_ok h1, fun f hf => of_decide_eq_true (List.all_eq_true.mp h2 f hf), He.eqO_ok h3, of_decide_eq_true h4, xfB_ok h5, of_decide_eq_true h6⟩
theorem xmk_of {X : Cx} {T : Tab} {c : Nat} {x : Str} {ns ps : List Str} {k' : Nat} (h : ExcF X.K x ns) (ec : T.exc c = He.ga X.K x) (lay : T.xlay c = ns) (hi : ∃ fd, FnOk X.prog X.w X.K X.mg X.base (L2.CX X.prog X.w) 1 (He.ma X.K (He.ga X.K x) "__init__") fd ps (spInit X.K ns) ∧ Binds X.K fd ps []) (hr : Room k' X.A)
    (hk : 2 ≤ k' := by decide) (nd : ns.Nodup := by decide +kernel) : XMk X T c ns := by
  obtain ⟨fd, h1, h2⟩ := hi
  exact ⟨by rw [ec]; exact h.C, by rw [ec]; exact h.no, lay, nd, _, fd, ps, 1, by rw [ec]; exact h.init, h.ty, h1, hr.mono hk, h2⟩
theorem spInit_len {K : PySem.W.Frag} {ns ps : List Str} (hl : ps.length = ns.length + 1) (vs : List V) (H : Hp) (Q : VK) (E : XK) (h : spInit K ns vs H Q E) : vs.length = ps.length := by
  obtain ⟨a, C, ws, rfl, e, _⟩ := h
  rw [List.length_cons, e, hl]
/-! ### == : what the head tells -/
def eqnB (x : Str) (K : PySem.W.Frag) : Bool := eqNeB K (He.ga K x) (He.ma K (He.ga K x) "__eq__")
def nfB (xs : List Str) (K : PySem.W.Frag) : Bool := xs.all fun x => xs.all fun y => PySem.W.notFirst K (He.ga K x) (.ref (He.ga K y))
theorem nf_ok {xs : List Str} {K : PySem.W.Frag} (h : nfB xs K = true) {x y : Str} (hx : x ∈ xs) (hy : y ∈ xs) : PySem.W.notFirst K (He.ga K x) (.ref (He.ga K y)) = true := List.all_eq_true.mp (List.all_eq_true.mp h x hx) y hy
theorem eqR_of {X : Cx} {T : Tab} {c : Nat} {x : Str} {ps : List Str} {k k' : Nat} {F : CF} (h : FnAll X.prog X.w X.K X.mg X.base T k (He.ma X.K (He.ga X.K x) "__eq__") ps 2 F) (ec : T.cls c = He.ga X.K x) (hb : eqnB x X.K = true) (hr : Room k' X.A) (hk : k + 1 ≤ k' := by decide) : EqR X T c F := by
  obtain ⟨⟨fd, h1, h2, h3⟩, h4⟩ := h
  exact ⟨h4, _, fd, ps, k, by rw [ec]; exact hb, h1, hr.mono hk, h2⟩
theorem u1 {k : Nat} {A : Around} (hr : Room k A) : A.units + 1 < cLine := Nat.lt_of_le_of_lt (Nat.add_le_add_left (by decide) _) (u65 hr)
theorem lamSB_of {a sc scp : Scope} (e : a = sc) (h : lamSB sc scp = true) : lamSB a scp = true := by rw [e]; exact h
/-! ### the end -/
theorem at_s {l : PySem.W.OpenLaw} {w : World} {K : PySem.W.Frag} {CX : CXT} {k n : Nat} {x : Str} {mg : Str → Option Value} {fa : Addr} {h : Heap} {fa' : List He.Fa} {fn : List He.DefD} {ts : List He.Tab} {tf : List He.Defn} {ex : PySem.W.Frag → Bool} {T : Tab} {F : CF} {fd : FuncData} (KX : K.In h) (c : He.SaysX fa' fn ts tf ex w h K)
    (hb : ∀ (s : Shared) (u : Value), BindsTo s fd ⟨[u], []⟩ [(x, u)]) (ht : ∀ p ∈ T.tabs, ∃ q ∈ tf, p.1 = (He.cT K q).2) (hL : ∀ ns : List Int, ns.length ≤ n → ∃ outs, F [.val (.frz (ns.map D.int))] = .ok outs (.bl true))
    (hF : ∀ base : Heap, K.In base → base.Ns mainGlobals mg → (∀ q ∈ tf, TabB base mg (He.cT K q).1 (He.cT K q).2) → FnOk l.prog w K mg base CX k fa fd [x] (spOf K T 1 F)) : LawAtS l w K CX k n x mg fa h := by
  refine ⟨fd, tf.map (He.cT K), spOf K T 1 F, fun p hp => ?_, fun p hp => ?_, fun p hp => ?_, hb, fun H a ns hl _ hH hS => ?_, fun base h1 h2 h3 => ?_⟩
  · obtain ⟨q, hq, rfl⟩ := List.mem_map.mp hp
    exact c.empty q hq
  · obtain ⟨q, hq, rfl⟩ := List.mem_map.mp hp
    exact c.out q hq
  · obtain ⟨q, hq, rfl⟩ := List.mem_map.mp hp
    exact PySem.W.codeHd_of_K KX (c.hd q hq)
  · refine sp_law (fun p hp => ?_) hS (hL ns hl)
    obtain ⟨q, hq, e⟩ := ht p hp
    exact TabS.nil (by rw [e]; exact hH _ (List.mem_map.mpr ⟨q, hq, rfl⟩))
  · exact hF base h1 h2 fun q hq => h3 _ (List.mem_map.mpr ⟨q, hq, rfl⟩)
end Zd
end
section
/-! Zd 29: sum of a list or a tuple of ints. -/
namespace Zd
open PySem PySem.Spec PyProof.Rows L2
set_option autoImplicit false
section
variable {prog : Program} {w : World} {A : Around} {E : Value → Shared → Prop} {s : Shared} {l : Addr} {its : List Value} {ns : List Int} {xs : Array (Int × Tok)} {Q : Value → Shared → Prop}
theorem sum_tupRaw (hh : A.handled = none) (hl : s.heap.IsTuple l its.toArray) (hi : IntsAre its ns)
    (h : ∀ h' tk t', (∀ b o, s.heap.get? b = some o → h'.get? b = some o) → Q (.int ns.sum t') { s with heap := h', toks := tk }) : wpAny (model prog w) A (call (.builtin "sum") [.ref l]) Q E s := by
  obtain ⟨xs, e⟩ := hi.allInts.items
  have hn : numsOf (intItems xs).toList = ns := by rw [← e]; exact hi.numsOf
  rw [nums_intItems] at hn
  rw [e] at hl
  refine call_sum_walkG (iter_intTuple hl fun s₂ e st hfp hlI => ?_)
  subst e
  refine ⟨_, _, _, _, _, _, numAt xs, rfl, Walks.tuple (A := A.in1) hh _ l hlI (intItems xs), st, hfp, (fun _ _ => intItems_at), fun h' tk t' hk => ?_⟩
  have := h h' tk t' (old_keptT hk)
  have e2 : preSum (numAt xs) xs.size = ns.sum := by rw [preSum_eq, List.take_of_length_le (by simp), hn]
  simpa [intItems, e2] using this
end
section
variable {X : Cx} {T : Tab} {W : WX} {pos : Pos}
def rSum2 (K : PySem.W.Frag) : List V → Hp → VK → Prop := fun vs H Q => ∃ (a : Addr) (ns : List Int), vs = [V.ref a] ∧ (SqL K H a (ns.map V.int) ∨ SqT K H a (ns.map V.int)) ∧ Q (.int ns.sum) H
theorem call_sumS (hc : X.calm = true) : CallR X (.builtin "sum") (rSum2 X.K) := by
  intro pins s σ H vs us Q I r h
  obtain ⟨a, ns, rfl, hs | hs, q⟩ := h
  · exact cr_sum hc pins s σ H _ us Q I r ⟨a, ns, rfl, hs, q⟩
  · obtain ⟨its, rv, hl, _⟩ := I.tuple hs
    rw [Vals.ref1 r]
    exact sum_tupRaw (I.ok.hd hc) hl rv.ints fun h' tk t' hk => ⟨.int _, H, I.kept hk, ⟨_, rfl⟩, q⟩
def sum2D : List D → Option D
  | [d] => ((isSq d).bind intsD).map fun ns => .int ns.sum
  | _ => none
theorem snd_sum2 {K : PySem.W.Frag} : SndL K T (rSum2 K) sum2D := fun vs ds d G H Q s rb e q => by
  unfold sum2D at e
  split at e
  · obtain ⟨v, rfl, r⟩ := rb.one
    obtain ⟨ns, h1, rfl⟩ := map_some' e
    obtain ⟨es, h2, h3⟩ := two_some h1
    obtain ⟨a, xs, rfl, h4, h5⟩ := Rb.seq' s r h2
    have := ints_rz h5 h3
    subst this
    exact ⟨a, ns, rfl, h4, q _ G H (New.refl s) Rz.int_⟩
  · cases e
end
end Zd
end
section
set_option maxHeartbeats 0
/-! printed: the defs of neverlies_k73_whole_memories -/
namespace A
open PySem PySem.Spec PyProof.Rows L2 Zd
set_option autoImplicit false
def top (i : Nat) : Stmt := PySem.Challenge.pw_neverlies_k73_whole_memories.main.body.getD i (.Pass ⟨0, 0, 0, 0⟩)
/-! ### classes, attributes -/
def nmC : Nat → Str
  | 0 => "Just"
  | 1 => "Misdone"
  | _ => ""
def layC : Nat → List Str
  | 0 => []
  | 1 => ["place", "how"]
  | _ => []
def nmX : Nat → Str
  | 0 => "BadPart"
  | _ => ""
def xlayC : Nat → List Str
  | 0 => ["part", "place"]
  | _ => []
/-! ### the text by places -/
abbrev s_is_row : Stmt := top 5
abbrev s_is_integer : Stmt := top 4
abbrev s_is_number : Stmt := top 6
abbrev s_is_pair : Stmt := top 7
abbrev s_is_tag : Stmt := top 10
abbrev s_Justdd_booldd : Stmt := inClass (top 20) 0
abbrev s_Misdonedd_booldd : Stmt := inClass (top 21) 1
abbrev s_check_comes : Stmt := top 16
abbrev s_is_memory : Stmt := top 14
abbrev s_check_memory : Stmt := top 15
abbrev s_is_known : Stmt := top 17
abbrev s_kept_behind : Stmt := top 18
abbrev s_done_by : Stmt := top 19
abbrev s_Misdonedd_initdd : Stmt := inClass (top 21) 0
abbrev s_judge_comes : Stmt := top 22
abbrev s_check_crowd : Stmt := top 23
abbrev s_rows_kept : Stmt := top 27
abbrev s_doubles_in : Stmt := top 26
abbrev s_may_come : Stmt := top 25
abbrev s_are_coming : Stmt := top 24
abbrev s_Just_shows : Stmt := inClass (top 20) 2
abbrev s_Justdd_eqdd : Stmt := inClass (top 20) 1
abbrev s_Misdonedd_eqdd : Stmt := inClass (top 21) 2
abbrev s_Misdone_shows : Stmt := inClass (top 21) 3
abbrev s__law_can : Stmt := top 37
abbrev s__law_done : Stmt := top 35
abbrev s__law_judged : Stmt := top 36
abbrev s__law_cell_at : Stmt := top 29
abbrev s__law_draw : Stmt := top 30
abbrev s__law_number : Stmt := top 31
abbrev s__law_next : Stmt := top 32
abbrev s__law_pick : Stmt := top 33
abbrev s_law : Stmt := top 38
abbrev s__law_refuses : Stmt := top 34
abbrev s_BadPartdd_initdd : Stmt := inClass (top 2) 0
def TT (K : PySem.W.Frag) : Tab := { cls := fun c => He.ga K (nmC c), lay := layC, exc := fun c => He.ga K (nmX c), xlay := xlayC, tabs := [((He.cT K ("law", none)).2, (envOfC "law" (defScope s_law) 0 0 .none).qual ++ "<lambda>")] }
def fp_how : Nat → Option Nat
  | 1 => some 1
  | _ => none
def fp_place : Nat → Option Nat
  | 1 => some 0
  | _ => none
def iz_Just : Nat → Option Bool
  | 0 => some true
  | 1 => some false
  | _ => none
def iz_Misdone : Nat → Option Bool
  | 0 => some false
  | 1 => some true
  | _ => none
def vv_MOST_CLIENTS : D := .int 4
def vv_MOST_COMES : D := .int 24
def vv_MOST_WINDOW : D := .int 12
/-! ### what the head tells -/
structure Ctx (K : PySem.W.Frag) (mg : Str → Option Value) : Prop where
  g_is_row : mg "is_row" = some (.ref (He.ga K "is_row"))
  g_is_integer : mg "is_integer" = some (.ref (He.ga K "is_integer"))
  g_is_number : mg "is_number" = some (.ref (He.ga K "is_number"))
  g_is_pair : mg "is_pair" = some (.ref (He.ga K "is_pair"))
  g_is_tag : mg "is_tag" = some (.ref (He.ga K "is_tag"))
  g_check_comes : mg "check_comes" = some (.ref (He.ga K "check_comes"))
  g_is_memory : mg "is_memory" = some (.ref (He.ga K "is_memory"))
  g_check_memory : mg "check_memory" = some (.ref (He.ga K "check_memory"))
  g_is_known : mg "is_known" = some (.ref (He.ga K "is_known"))
  g_kept_behind : mg "kept_behind" = some (.ref (He.ga K "kept_behind"))
  g_done_by : mg "done_by" = some (.ref (He.ga K "done_by"))
  g_judge_comes : mg "judge_comes" = some (.ref (He.ga K "judge_comes"))
  g_check_crowd : mg "check_crowd" = some (.ref (He.ga K "check_crowd"))
  g_rows_kept : mg "rows_kept" = some (.ref (He.ga K "rows_kept"))
  g_doubles_in : mg "doubles_in" = some (.ref (He.ga K "doubles_in"))
  g_may_come : mg "may_come" = some (.ref (He.ga K "may_come"))
  g_are_coming : mg "are_coming" = some (.ref (He.ga K "are_coming"))
  g__law_can : mg "_law_can" = some (.ref (He.ga K "_law_can"))
  g__law_done : mg "_law_done" = some (.ref (He.ga K "_law_done"))
  g__law_judged : mg "_law_judged" = some (.ref (He.ga K "_law_judged"))
  g__law_cell_at : mg "_law_cell_at" = some (.ref (He.ga K "_law_cell_at"))
  g__law_draw : mg "_law_draw" = some (.ref (He.ga K "_law_draw"))
  g__law_number : mg "_law_number" = some (.ref (He.ga K "_law_number"))
  g__law_next : mg "_law_next" = some (.ref (He.ga K "_law_next"))
  g__law_pick : mg "_law_pick" = some (.ref (He.ga K "_law_pick"))
  g_law : mg "law" = some (.ref (He.ga K "law"))
  g_Just : mg "Just" = some (.ref (He.ga K "Just"))
  k_Just : Cls K (He.ga K "Just")
  g_Misdone : mg "Misdone" = some (.ref (He.ga K "Misdone"))
  k_Misdone : Cls K (He.ga K "Misdone")
  n_any : mg "any" = none
  n_bool : mg "bool" = none
  n_enumerate : mg "enumerate" = none
  n_int : mg "int" = none
  n_isinstance : mg "isinstance" = none
  n_len : mg "len" = none
  n_list : mg "list" = none
  n_max : mg "max" = none
  n_min : mg "min" = none
  n_range : mg "range" = none
  n_sorted : mg "sorted" = none
  n_sum : mg "sum" = none
  n_tuple : mg "tuple" = none
  v_MOST_CLIENTS : ∃ t, mg "MOST_CLIENTS" = some (.int 4 t)
  v_MOST_COMES : ∃ t, mg "MOST_COMES" = some (.int 24 t)
  v_MOST_WINDOW : ∃ t, mg "MOST_WINDOW" = some (.int 12 t)
  no_Misdone_how : NoAttr K (He.ga K "Misdone") "how"
  no_Misdone_place : NoAttr K (He.ga K "Misdone") "place"
  mk_Just : Mk00 K (He.ga K "Just")
  mk_Misdone : Mk K (He.ga K "Misdone") (He.ma K (He.ga K "Misdone") "__init__")
  isc_Just_Just : IsC K (TT K) 0 0 true
  isc_Just_Misdone : IsC K (TT K) 1 0 false
  isc_Misdone_Just : IsC K (TT K) 0 1 false
  isc_Misdone_Misdone : IsC K (TT K) 1 1 true
  g_BadPart : mg "BadPart" = some (.ref (He.ga K "BadPart"))
  x_BadPart : ExcF K "BadPart" ["part", "place"]
  eq_Just : eqnB "Just" K = true
  eq_Misdone : eqnB "Misdone" K = true
  nf_ : nfB ["Just", "Misdone"] K = true
  m_Just___bool__ : Meth K (He.ga K "Just") "__bool__" (He.ma K (He.ga K "Just") "__bool__")
  m_Misdone___bool__ : Meth K (He.ga K "Misdone") "__bool__" (He.ma K (He.ga K "Misdone") "__bool__")
  m_Just_shows : Meth K (He.ga K "Just") "shows" (He.ma K (He.ga K "Just") "shows")
  m_Misdone_shows : Meth K (He.ga K "Misdone") "shows" (He.ma K (He.ga K "Misdone") "shows")
  g__law_refuses : mg "_law_refuses" = some (.ref (He.ga K "_law_refuses"))
  f_is_row : ∃ fd, FunD K "is_row" "is_row" (defArgs s_is_row) (defBody s_is_row) (defScope s_is_row) [] [] (He.ga K "is_row") fd
  f_is_integer : ∃ fd, FunD K "is_integer" "is_integer" (defArgs s_is_integer) (defBody s_is_integer) (defScope s_is_integer) [] [] (He.ga K "is_integer") fd
  f_is_number : ∃ fd, FunD K "is_number" "is_number" (defArgs s_is_number) (defBody s_is_number) (defScope s_is_number) [] [] (He.ga K "is_number") fd
  f_is_pair : ∃ fd, FunD K "is_pair" "is_pair" (defArgs s_is_pair) (defBody s_is_pair) (defScope s_is_pair) [] [] (He.ga K "is_pair") fd
  f_is_tag : ∃ fd, FunD K "is_tag" "is_tag" (defArgs s_is_tag) (defBody s_is_tag) (defScope s_is_tag) [] [] (He.ga K "is_tag") fd
  f_Justdd_booldd : ∃ fd, FunD K "__bool__" "Just.__bool__" (defArgs s_Justdd_booldd) (defBody s_Justdd_booldd) (defScope s_Justdd_booldd) [] [] (He.ma K (He.ga K "Just") "__bool__") fd
  f_Misdonedd_booldd : ∃ fd, FunD K "__bool__" "Misdone.__bool__" (defArgs s_Misdonedd_booldd) (defBody s_Misdonedd_booldd) (defScope s_Misdonedd_booldd) [] [] (He.ma K (He.ga K "Misdone") "__bool__") fd
  f_check_comes : ∃ fd, FunD K "check_comes" "check_comes" (defArgs s_check_comes) (defBody s_check_comes) (defScope s_check_comes) [] [] (He.ga K "check_comes") fd
  f_is_memory : ∃ fd, FunD K "is_memory" "is_memory" (defArgs s_is_memory) (defBody s_is_memory) (defScope s_is_memory) [] [] (He.ga K "is_memory") fd
  f_check_memory : ∃ fd, FunD K "check_memory" "check_memory" (defArgs s_check_memory) (defBody s_check_memory) (defScope s_check_memory) [] [] (He.ga K "check_memory") fd
  f_is_known : ∃ fd, FunD K "is_known" "is_known" (defArgs s_is_known) (defBody s_is_known) (defScope s_is_known) [] [] (He.ga K "is_known") fd
  f_kept_behind : ∃ fd, FunD K "kept_behind" "kept_behind" (defArgs s_kept_behind) (defBody s_kept_behind) (defScope s_kept_behind) [] [] (He.ga K "kept_behind") fd
  f_done_by : ∃ fd, FunD K "done_by" "done_by" (defArgs s_done_by) (defBody s_done_by) (defScope s_done_by) [] [] (He.ga K "done_by") fd
  f_Misdonedd_initdd : ∃ fd, FunD K "__init__" "Misdone.__init__" (defArgs s_Misdonedd_initdd) (defBody s_Misdonedd_initdd) (defScope s_Misdonedd_initdd) [] [] (He.ma K (He.ga K "Misdone") "__init__") fd
  f_judge_comes : ∃ fd, FunD K "judge_comes" "judge_comes" (defArgs s_judge_comes) (defBody s_judge_comes) (defScope s_judge_comes) [] [] (He.ga K "judge_comes") fd
  f_check_crowd : ∃ fd, FunD K "check_crowd" "check_crowd" (defArgs s_check_crowd) (defBody s_check_crowd) (defScope s_check_crowd) [] [] (He.ga K "check_crowd") fd
  f_rows_kept : ∃ fd, FunD K "rows_kept" "rows_kept" (defArgs s_rows_kept) (defBody s_rows_kept) (defScope s_rows_kept) [] [] (He.ga K "rows_kept") fd
  f_doubles_in : ∃ fd, FunD K "doubles_in" "doubles_in" (defArgs s_doubles_in) (defBody s_doubles_in) (defScope s_doubles_in) [] [] (He.ga K "doubles_in") fd
  f_may_come : ∃ fd, FunD K "may_come" "may_come" (defArgs s_may_come) (defBody s_may_come) (defScope s_may_come) [] [] (He.ga K "may_come") fd
  f_are_coming : ∃ fd, FunD K "are_coming" "are_coming" (defArgs s_are_coming) (defBody s_are_coming) (defScope s_are_coming) [] [] (He.ga K "are_coming") fd
  f_Just_shows : ∃ fd, FunD K "shows" "Just.shows" (defArgs s_Just_shows) (defBody s_Just_shows) (defScope s_Just_shows) [] [] (He.ma K (He.ga K "Just") "shows") fd
  f_Justdd_eqdd : ∃ fd, FunD K "__eq__" "Just.__eq__" (defArgs s_Justdd_eqdd) (defBody s_Justdd_eqdd) (defScope s_Justdd_eqdd) [] [] (He.ma K (He.ga K "Just") "__eq__") fd
  f_Misdonedd_eqdd : ∃ fd, FunD K "__eq__" "Misdone.__eq__" (defArgs s_Misdonedd_eqdd) (defBody s_Misdonedd_eqdd) (defScope s_Misdonedd_eqdd) [] [] (He.ma K (He.ga K "Misdone") "__eq__") fd
  f_Misdone_shows : ∃ fd, FunD K "shows" "Misdone.shows" (defArgs s_Misdone_shows) (defBody s_Misdone_shows) (defScope s_Misdone_shows) [] [] (He.ma K (He.ga K "Misdone") "shows") fd
  f__law_can : ∃ fd, FunD K "_law_can" "_law_can" (defArgs s__law_can) (defBody s__law_can) (defScope s__law_can) [] [] (He.ga K "_law_can") fd
  f__law_done : ∃ fd, FunD K "_law_done" "_law_done" (defArgs s__law_done) (defBody s__law_done) (defScope s__law_done) [] [] (He.ga K "_law_done") fd
  f__law_judged : ∃ fd, FunD K "_law_judged" "_law_judged" (defArgs s__law_judged) (defBody s__law_judged) (defScope s__law_judged) [] [] (He.ga K "_law_judged") fd
  f__law_cell_at : ∃ fd, FunD K "_law_cell_at" "_law_cell_at" (defArgs s__law_cell_at) (defBody s__law_cell_at) (defScope s__law_cell_at) [] [] (He.ga K "_law_cell_at") fd
  f__law_draw : ∃ fd, FunD K "_law_draw" "_law_draw" (defArgs s__law_draw) (defBody s__law_draw) (defScope s__law_draw) [] [] (He.ga K "_law_draw") fd
  f__law_number : ∃ fd, FunD K "_law_number" "_law_number" (defArgs s__law_number) (defBody s__law_number) (defScope s__law_number) [] [] (He.ga K "_law_number") fd
  f__law_next : ∃ fd, FunD K "_law_next" "_law_next" (defArgs s__law_next) (defBody s__law_next) (defScope s__law_next) [] [] (He.ga K "_law_next") fd
  f__law_pick : ∃ fd, FunD K "_law_pick" "_law_pick" (defArgs s__law_pick) (defBody s__law_pick) (defScope s__law_pick) [] [] (He.ga K "_law_pick") fd
  f_law : ∃ fd, FunD K "law" "law" (defArgs s_law) (defBody s_law) (defScope s_law) [] [] (He.ga K "law") fd
  f__law_refuses : ∃ fd, FunD K "_law_refuses" "_law_refuses" (defArgs s__law_refuses) (defBody s__law_refuses) (defScope s__law_refuses) [] [] (He.ga K "_law_refuses") fd
  f_BadPartdd_initdd : ∃ fd, FunD K "__init__" "BadPart.__init__" (defArgs s_BadPartdd_initdd) (defBody s_BadPartdd_initdd) (defScope s_BadPartdd_initdd) [] [] (He.ma K (He.ga K "BadPart") "__init__") fd
structure Ctb (K : PySem.W.Frag) (mg : Str → Option Value) (base : Heap) : Prop where
  ok : True
  t_law : LamX.TabB base mg (He.cT K ("law", none)).1 (He.cT K ("law", none)).2
section
variable {K : PySem.W.Frag} {mg : Str → Option Value}
theorem Ctx.c_MOST_CLIENTS {X : Cx} {W : WX} {pos : Pos} (Z : Ctx K mg) (hK : X.K = K := by rfl) (hm : X.mg = mg := by rfl) (hg : Gl X "MOST_CLIENTS" := by rfl) : DE X (TT K) W (.Name "MOST_CLIENTS" pos) (dC vv_MOST_CLIENTS) := by
  subst hK hm
  exact Z.v_MOST_CLIENTS.elim fun t h => de_glob (v := V.int 4) h ⟨t, rfl⟩ (fun _ => Rz.int_) hg
theorem Ctx.c_MOST_COMES {X : Cx} {W : WX} {pos : Pos} (Z : Ctx K mg) (hK : X.K = K := by rfl) (hm : X.mg = mg := by rfl) (hg : Gl X "MOST_COMES" := by rfl) : DE X (TT K) W (.Name "MOST_COMES" pos) (dC vv_MOST_COMES) := by
  subst hK hm
  exact Z.v_MOST_COMES.elim fun t h => de_glob (v := V.int 24) h ⟨t, rfl⟩ (fun _ => Rz.int_) hg
theorem Ctx.c_MOST_WINDOW {X : Cx} {W : WX} {pos : Pos} (Z : Ctx K mg) (hK : X.K = K := by rfl) (hm : X.mg = mg := by rfl) (hg : Gl X "MOST_WINDOW" := by rfl) : DE X (TT K) W (.Name "MOST_WINDOW" pos) (dC vv_MOST_WINDOW) := by
  subst hK hm
  exact Z.v_MOST_WINDOW.elim fun t h => de_glob (v := V.int 12) h ⟨t, rfl⟩ (fun _ => Rz.int_) hg
theorem Ctx.a_how (Z : Ctx K mg) : FldOk K (TT K) "how" fp_how := fun c i e => by
  unfold fp_how at e
  split at e
  · cases e; exact ⟨Z.k_Misdone, Z.no_Misdone_how, rfl, by show (layC 1).Nodup; decide +kernel⟩
  · cases e
theorem Ctx.a_place (Z : Ctx K mg) : FldOk K (TT K) "place" fp_place := fun c i e => by
  unfold fp_place at e
  split at e
  · cases e; exact ⟨Z.k_Misdone, Z.no_Misdone_place, rfl, by show (layC 1).Nodup; decide +kernel⟩
  · cases e
theorem Ctx.is_Just (Z : Ctx K mg) : ∀ c b, iz_Just c = some b → IsC K (TT K) c 0 b := fun c b e => by
  unfold iz_Just at e
  split at e
  · cases e; exact Z.isc_Just_Just
  · cases e; exact Z.isc_Just_Misdone
  · cases e
theorem Ctx.is_Misdone (Z : Ctx K mg) : ∀ c b, iz_Misdone c = some b → IsC K (TT K) c 1 b := fun c b e => by
  unfold iz_Misdone at e
  split at e
  · cases e; exact Z.isc_Misdone_Just
  · cases e; exact Z.isc_Misdone_Misdone
  · cases e
end
/-! ### the defs -/
section
variable {P : Program} {w : World} {K : PySem.W.Frag} {mg : Str → Option Value} {base : Heap}
theorem sc_BadPartdd_initdd : FnScope ["self", "part", "place"] ["self", "part", "place"] (defScope s_BadPartdd_initdd) := ⟨rfl, rfl, rfl, by decide +kernel, rfl, by decide +kernel, by decide +kernel⟩
theorem init_BadPart (Z : Ctx K mg) : ∃ fd, FnOk P w K mg base (L2.CX P w) 1 (He.ma K (He.ga K "BadPart") "__init__") fd ["self", "part", "place"] (spInit K ["part", "place"]) ∧ Binds K fd ["self", "part", "place"] [] := by
  obtain ⟨fd, F⟩ := Z.f_BadPartdd_initdd
  exact ⟨fd, F.ok (CX := L2.CX P w) (k := 0) sc_BadPartdd_initdd (spInit_len rfl) (fun cdv A outer s H vs Q E hr h => ⟨_, pss_cons (ps_ost (pv 0) (pv 1)) (pss_one (ps_ost (pv 0) (pv 2))), init2 h⟩), F.bindsN (fun _ _ _ _ _ _ us hl => match us, hl with | [_, _, _], _ => rfl)⟩
theorem xmk_BadPart {X : Cx} {k' : Nat} (Z : Ctx X.K X.mg) (hr : Room k' X.A) (hk : 2 ≤ k' := by decide) : XMk X (TT X.K) 0 ["part", "place"] := xmk_of Z.x_BadPart rfl rfl (init_BadPart Z) hr hk
theorem sc__law_refuses : FnScope ["work", "part", "place", "e"] ["work", "part", "place"] (defScope s__law_refuses) := ⟨rfl, rfl, rfl, by decide +kernel, rfl, by decide +kernel, by decide +kernel⟩
theorem rf_ok {X : Cx} (Z : Ctx X.K X.mg) : RfOk X (TT X.K) "_law_refuses" (He.ga X.K "_law_refuses") 0 "part" "place" := by
  obtain ⟨fd, F⟩ := Z.f__law_refuses
  have hb := F.bindsN (ps := ["work", "part", "place"]) (fun _ _ _ _ _ _ us hl => match us, hl with | [_, _, _], _ => rfl)
  obtain ⟨oc, od, dV, kV, doc, pm, an, cdv, ct, osl, rfl, lk, hcd, _, _⟩ := F.ex
  exact ⟨⟨"work", "e", "BadPart", _, _, _, dV, kV, doc, pm, cdv, ct, oc, an, od, osl, lk, hcd, hb, sc__law_refuses, .inl (by decide +kernel), fun q => refuse_gives sc__law_refuses.nd rfl (by decide +kernel) Z.g_BadPart Z.x_BadPart.xf (Z.x_BadPart.no _ (by simp)) (Z.x_BadPart.no _ (by simp)) (by decide +kernel) (.inl (by decide +kernel)) (.inl (by decide +kernel)) (.inl (by decide +kernel)), by decide, by decide⟩, F.kp, rfl, Z.x_BadPart.exm⟩
def D_is_row : DSn :=
    (dRet (dIsi2 "list" "tuple" (oPl 0)))
def F_is_row : CF := cfOf 1 1 D_is_row
theorem sc_is_row : FnScope ["thing"] ["thing"] (defScope s_is_row) := ⟨rfl, rfl, rfl, by decide +kernel, rfl, by decide +kernel, by decide +kernel⟩
theorem ok_is_row (Z : Ctx K mg) (Zb : Ctb K mg base) : FnAll P w K mg base (TT K) 2 (He.ga K "is_row") ["thing"] 1 F_is_row :=
  fnAll (k := 1) Z.f_is_row sc_is_row (fun _ _ _ _ _ _ us hl => match us, hl with | [_], _ => rfl) fun cdv A outer s H E hr => by
    have hN := sc_is_row.nd
    exact (dss_one (ds_ret (de_isi2 kit_list kit_tuple (do_pl (pv 0)) Z.n_isinstance Z.n_list boot_list Z.n_tuple boot_tuple)))
def D_is_integer : DSn :=
    (dRet (dAnd (dIsi "int" (oPl 0)) (dNot (dBl (dIsi "bool" (oPl 0))))))
def F_is_integer : CF := cfOf 1 1 D_is_integer
theorem sc_is_integer : FnScope ["thing"] ["thing"] (defScope s_is_integer) := ⟨rfl, rfl, rfl, by decide +kernel, rfl, by decide +kernel, by decide +kernel⟩
theorem ok_is_integer (Z : Ctx K mg) (Zb : Ctb K mg base) : FnAll P w K mg base (TT K) 2 (He.ga K "is_integer") ["thing"] 1 F_is_integer :=
  fnAll (k := 1) Z.f_is_integer sc_is_integer (fun _ _ _ _ _ _ us hl => match us, hl with | [_], _ => rfl) fun cdv A outer s H E hr => by
    have hN := sc_is_integer.nd
    exact (dss_one (ds_ret (de_and (de_isi kit_int (do_pl (pv 0)) Z.n_isinstance Z.n_int boot_int) (de_one (de_not (de_isi kit_bool (do_pl (pv 0)) Z.n_isinstance Z.n_bool boot_bool))))))
def D_is_number : DSn :=
    (dRet (dAnd (dCall F_is_integer (aCons (oPl 0) aNil)) (d3 leD leD (oPl 1) (oPl 0) (oPl 2))))
def F_is_number : CF := cfOf 3 3 D_is_number
theorem sc_is_number : FnScope ["thing", "low", "high"] ["thing", "low", "high"] (defScope s_is_number) := ⟨rfl, rfl, rfl, by decide +kernel, rfl, by decide +kernel, by decide +kernel⟩
theorem ok_is_number (Z : Ctx K mg) (Zb : Ctb K mg base) : FnAll P w K mg base (TT K) 5 (He.ga K "is_number") ["thing", "low", "high"] 3 F_is_number :=
  fnAll (k := 4) Z.f_is_number sc_is_number (fun _ _ _ _ _ _ us hl => match us, hl with | [_, _, _], _ => rfl) fun cdv A outer s H E hr => by
    have hN := sc_is_number.nd
    exact (dss_one (ds_ret (de_and (de_call px_cx ((ok_is_integer Z Zb).fok hr) Z.g_is_integer (da_cons (do_pl (pv 0)) da_nil)) (de_one (de_chain s_le op_le s_le op_le (do_pl (pv 1)) (do_pl (pv 0)) (do_pl (pv 2)))))))
def D_is_pair : DSn :=
    (dRet (dAnd (dIsi "tuple" (oPl 0)) (d2 eqD (oV (dL lenD (aCons (oPl 0) aNil))) (oV (dC (.int 2))))))
def F_is_pair : CF := cfOf 1 1 D_is_pair
theorem sc_is_pair : FnScope ["thing"] ["thing"] (defScope s_is_pair) := ⟨rfl, rfl, rfl, by decide +kernel, rfl, by decide +kernel, by decide +kernel⟩
theorem ok_is_pair (Z : Ctx K mg) (Zb : Ctb K mg base) : FnAll P w K mg base (TT K) 2 (He.ga K "is_pair") ["thing"] 1 F_is_pair :=
  fnAll (k := 1) Z.f_is_pair sc_is_pair (fun _ _ _ _ _ _ us hl => match us, hl with | [_], _ => rfl) fun cdv A outer s H E hr => by
    have hN := sc_is_pair.nd
    exact (dss_one (ds_ret (de_and (de_isi kit_tuple (do_pl (pv 0)) Z.n_isinstance Z.n_tuple boot_tuple) (de_one (de_cmp s_eq (op_eqD hr.units) (do_v (de_callB snd_len call_len2 (da_cons (do_pl (pv 0)) da_nil) Z.n_len boot_len)) (do_v de_int))))))
def D_is_tag : DSn :=
    (dRet (dAnd (dCall F_is_pair (aCons (oPl 0) aNil)) (dAnd (dCall F_is_number (aCons (oV (d2 ixD (oPl 0) (oV (dC (.int 0))))) (aCons (oV (dC (.int 0))) (aCons (oV (d2 (i0D fun i j => .int (i - j)) (oV (dC vv_MOST_CLIENTS)) (oV (dC (.int 1))))) aNil)))) (dCall F_is_number (aCons (oV (d2 ixD (oPl 0) (oV (dC (.int 1))))) (aCons (oV (dC (.int 0))) (aCons (oV (dC (.int 9))) aNil)))))))
def F_is_tag : CF := cfOf 1 1 D_is_tag
theorem sc_is_tag : FnScope ["tag"] ["tag"] (defScope s_is_tag) := ⟨rfl, rfl, rfl, by decide +kernel, rfl, by decide +kernel, by decide +kernel⟩
theorem ok_is_tag (Z : Ctx K mg) (Zb : Ctb K mg base) : FnAll P w K mg base (TT K) 8 (He.ga K "is_tag") ["tag"] 1 F_is_tag :=
  fnAll (k := 7) Z.f_is_tag sc_is_tag (fun _ _ _ _ _ _ us hl => match us, hl with | [_], _ => rfl) fun cdv A outer s H E hr => by
    have hN := sc_is_tag.nd
    exact (dss_one (ds_ret (de_and (de_call px_cx ((ok_is_pair Z Zb).fok hr) Z.g_is_pair (da_cons (do_pl (pv 0)) da_nil)) (de_and (de_call px_cx ((ok_is_number Z Zb).fok hr) Z.g_is_number (da_cons (do_v (de_ix (do_pl (pv 0)) (do_v de_int))) (da_cons (do_v de_int) (da_cons (do_v (de_sub (do_v Z.c_MOST_CLIENTS) (do_v de_int))) da_nil)))) (de_one (de_call px_cx ((ok_is_number Z Zb).fok hr) Z.g_is_number (da_cons (do_v (de_ix (do_pl (pv 0)) (do_v de_int))) (da_cons (do_v de_int) (da_cons (do_v de_int) da_nil)))))))))
def D_Justdd_booldd : DSn :=
    (dRet (dC (.bl true)))
def F_Justdd_booldd : CF := cfOf 1 1 D_Justdd_booldd
theorem sc_Justdd_booldd : FnScope ["self"] ["self"] (defScope s_Justdd_booldd) := ⟨rfl, rfl, rfl, by decide +kernel, rfl, by decide +kernel, by decide +kernel⟩
theorem ok_Justdd_booldd (Z : Ctx K mg) (Zb : Ctb K mg base) : FnAll P w K mg base (TT K) 2 (He.ma K (He.ga K "Just") "__bool__") ["self"] 1 F_Justdd_booldd :=
  fnAll (k := 1) Z.f_Justdd_booldd sc_Justdd_booldd (fun _ _ _ _ _ _ us hl => match us, hl with | [_], _ => rfl) fun cdv A outer s H E hr => by
    have hN := sc_Justdd_booldd.nd
    exact (dss_one (ds_ret de_bl))
def D_Misdonedd_booldd : DSn :=
    (dRet (dC (.bl false)))
def F_Misdonedd_booldd : CF := cfOf 1 1 D_Misdonedd_booldd
theorem sc_Misdonedd_booldd : FnScope ["self"] ["self"] (defScope s_Misdonedd_booldd) := ⟨rfl, rfl, rfl, by decide +kernel, rfl, by decide +kernel, by decide +kernel⟩
theorem ok_Misdonedd_booldd (Z : Ctx K mg) (Zb : Ctb K mg base) : FnAll P w K mg base (TT K) 2 (He.ma K (He.ga K "Misdone") "__bool__") ["self"] 1 F_Misdonedd_booldd :=
  fnAll (k := 1) Z.f_Misdonedd_booldd sc_Misdonedd_booldd (fun _ _ _ _ _ _ us hl => match us, hl with | [_], _ => rfl) fun cdv A outer s H E hr => by
    have hN := sc_Misdonedd_booldd.nd
    exact (dss_one (ds_ret de_bl))
def M_bool : Nat → Option CF
  | 0 => some F_Justdd_booldd
  | 1 => some F_Misdonedd_booldd
  | _ => none
theorem rows_bool {X : Cx} {k' : Nat} (Z : Ctx X.K X.mg) (Zb : Ctb X.K X.mg X.base) (hk : 2 ≤ k' := by decide) : ∀ c F, M_bool c = some F → MRow X (TT X.K) "__bool__" 1 k' c F := fun c F e => by
  unfold M_bool at e
  split at e
  · cases e; exact (ok_Justdd_booldd Z Zb).mrow (c := 0) Z.k_Just Z.m_Just___bool__ (by show _ ∉ layC 0; decide +kernel) (Nat.le_trans (by decide) hk)
  · cases e; exact (ok_Misdonedd_booldd Z Zb).mrow (c := 1) Z.k_Misdone Z.m_Misdone___bool__ (by show _ ∉ layC 1; decide +kernel) (Nat.le_trans (by decide) hk)
  · cases e
theorem some_bool : ∃ c F, M_bool c = some F := ⟨0, _, rfl⟩
def D_check_comes : DSn :=
    (dSeq (dIte (tOrD (tNotD (dTru M_bool (oV (dCall F_is_row (aCons (oPl 0) aNil))))) (dBl (d2 gtD (oV (dL lenD (aCons (oPl 0) aNil))) (oV (dC vv_MOST_COMES))))) (dRaise 0 2 (aCons (oV (dC (.str "comes"))) (aCons (oV (dC .non)) aNil))) (dEnd .nx))
    (dFor (iVals enum1 (aCons (oV (dName 0)) aNil)) (gTp (gsCons (gNm 1) (gsCons (gNm 2) gsNil)))
    (dIte (tNotD (dTru M_bool (oV (dCall F_is_tag (aCons (oPl 2) aNil))))) (dRaise 0 2 (aCons (oV (dC (.str "comes"))) (aCons (oV (dName 1)) aNil))) (dEnd .nx))))
def F_check_comes : CF := cfOf 3 1 D_check_comes
theorem sc_check_comes : FnScope ["comes", "place", "tag"] ["comes"] (defScope s_check_comes) := ⟨rfl, rfl, rfl, by decide +kernel, rfl, by decide +kernel, by decide +kernel⟩
theorem ok_check_comes (Z : Ctx K mg) (Zb : Ctb K mg base) : FnAll P w K mg base (TT K) 11 (He.ga K "check_comes") ["comes"] 1 F_check_comes :=
  fnAll (k := 10) Z.f_check_comes sc_check_comes (fun _ _ _ _ _ _ us hl => match us, hl with | [_], _ => rfl) fun cdv A outer s H E hr => by
    have hN := sc_check_comes.nd
    exact (dss_cons (ds_if (dt_w (dw_or (dt_not (dt_tru (bok_of hr (rows_bool Z Zb)) (do_v (de_call px_cx ((ok_is_row Z Zb).fok hr) Z.g_is_row (da_cons (do_pl (pv 0)) da_nil))))) (dw_or1 (dt_cmp s_gt op_gt (do_v (de_callB snd_len call_len2 (da_cons (do_pl (pv 0)) da_nil) Z.n_len boot_len)) (do_v Z.c_MOST_COMES))))) (dss_one (ds_raise (xmk_BadPart Z hr) rfl tk_cx Z.g_BadPart (da_cons (do_v de_str) (da_cons (do_v de_non) da_nil)))) dss_nil)
    (dss_one (ds_for hp_cx rfl (di_enum (da_cons (do_v (de_name (pv 0))) da_nil) Z.n_enumerate) (dg_tup rfl (dgs_cons (dg_name hN) (dgs_cons (dg_name hN) dgs_nil)) (takes_cons (takes_cons takes_nil)))
    (dss_one (ds_if (dt_not (dt_tru (bok_of hr (rows_bool Z Zb)) (do_v (de_call px_cx ((ok_is_tag Z Zb).fok hr) Z.g_is_tag (da_cons (do_pl (pv 2)) da_nil))))) (dss_one (ds_raise (xmk_BadPart Z hr) rfl tk_cx Z.g_BadPart (da_cons (do_v de_str) (da_cons (do_v (de_name (pv 1))) da_nil)))) dss_nil)))))
def D_is_memory : DSn :=
    (dSeq (dIte (tOrD (tNotD (dBl (dIsi "tuple" (oPl 0)))) (dBl (d2 eqD (oPl 0) (oV (dTup aNil))))) (dRet (dC (.bl false))) (dEnd .nx))
    (dSeq (dIte (dBl (d2 eqD (oV (d2 ixD (oPl 0) (oV (dC (.int 0))))) (oV (dC (.str "window"))))) (dRet (dAnd (d2 eqD (oV (dL lenD (aCons (oPl 0) aNil))) (oV (dC (.int 2)))) (dCall F_is_number (aCons (oV (d2 ixD (oPl 0) (oV (dC (.int 1))))) (aCons (oV (dC (.int 0))) (aCons (oV (dC vv_MOST_WINDOW)) aNil)))))) (dEnd .nx))
    (dRet (d2 (inD false) (oPl 0) (oV (dTup (aCons (oV (dTup (aCons (oV (dC (.str "all"))) aNil))) (aCons (oV (dTup (aCons (oV (dC (.str "last"))) aNil))) aNil))))))))
def F_is_memory : CF := cfOf 1 1 D_is_memory
theorem sc_is_memory : FnScope ["thing"] ["thing"] (defScope s_is_memory) := ⟨rfl, rfl, rfl, by decide +kernel, rfl, by decide +kernel, by decide +kernel⟩
theorem ok_is_memory (Z : Ctx K mg) (Zb : Ctb K mg base) : FnAll P w K mg base (TT K) 8 (He.ga K "is_memory") ["thing"] 1 F_is_memory :=
  fnAll (k := 7) Z.f_is_memory sc_is_memory (fun _ _ _ _ _ _ us hl => match us, hl with | [_], _ => rfl) fun cdv A outer s H E hr => by
    have hN := sc_is_memory.nd
    exact (dss_cons (ds_if (dt_w (dw_or (dt_not (dt_val (de_isi kit_tuple (do_pl (pv 0)) Z.n_isinstance Z.n_tuple boot_tuple))) (dw_or1 (dt_cmp s_eq (op_eqD hr.units) (do_pl (pv 0)) (do_v (de_tup da_nil)))))) (dss_one (ds_ret de_bl)) dss_nil)
    (dss_cons (ds_if (dt_cmp s_eq (op_eqD hr.units) (do_v (de_ix (do_pl (pv 0)) (do_v de_int))) (do_v de_str)) (dss_one (ds_ret (de_and (de_cmp s_eq (op_eqD hr.units) (do_v (de_callB snd_len call_len2 (da_cons (do_pl (pv 0)) da_nil) Z.n_len boot_len)) (do_v de_int)) (de_one (de_call px_cx ((ok_is_number Z Zb).fok hr) Z.g_is_number (da_cons (do_v (de_ix (do_pl (pv 0)) (do_v de_int))) (da_cons (do_v de_int) (da_cons (do_v Z.c_MOST_WINDOW) da_nil)))))))) dss_nil)
    (dss_one (ds_ret (de_cmp s_in (op_inA (u65 hr)) (do_pl (pv 0)) (do_v (de_tup (da_cons (do_v (de_tup (da_cons (do_v de_str) da_nil))) (da_cons (do_v (de_tup (da_cons (do_v de_str) da_nil))) da_nil)))))))))
def D_check_memory : DSn :=
    (dIte (tNotD (dTru M_bool (oV (dCall F_is_memory (aCons (oPl 0) aNil))))) (dRaise 0 2 (aCons (oV (dC (.str "memory"))) (aCons (oV (dC .non)) aNil))) (dEnd .nx))
def F_check_memory : CF := cfOf 1 1 D_check_memory
theorem sc_check_memory : FnScope ["memory"] ["memory"] (defScope s_check_memory) := ⟨rfl, rfl, rfl, by decide +kernel, rfl, by decide +kernel, by decide +kernel⟩
theorem ok_check_memory (Z : Ctx K mg) (Zb : Ctb K mg base) : FnAll P w K mg base (TT K) 11 (He.ga K "check_memory") ["memory"] 1 F_check_memory :=
  fnAll (k := 10) Z.f_check_memory sc_check_memory (fun _ _ _ _ _ _ us hl => match us, hl with | [_], _ => rfl) fun cdv A outer s H E hr => by
    have hN := sc_check_memory.nd
    exact (dss_one (ds_if (dt_not (dt_tru (bok_of hr (rows_bool Z Zb)) (do_v (de_call px_cx ((ok_is_memory Z Zb).fok hr) Z.g_is_memory (da_cons (do_pl (pv 0)) da_nil))))) (dss_one (ds_raise (xmk_BadPart Z hr) rfl tk_cx Z.g_BadPart (da_cons (do_v de_str) (da_cons (do_v de_non) da_nil)))) dss_nil))
def D_is_known : DSn :=
    (dSeq (dIte (dBl (d2 eqD (oV (d2 ixD (oPl 0) (oV (dC (.int 0))))) (oV (dC (.str "last"))))) (dRet (dL anyD (aCons (oLc (iSeq (dName 1)) [3] (gNm 3) tTrue (dAnd (d2 eqD (oV (d2 ixD (oPl 3) (oV (dC (.int 0))))) (oV (d2 ixD (oPl 2) (oV (dC (.int 0)))))) (d2 geD (oV (d2 ixD (oPl 3) (oV (dC (.int 1))))) (oV (d2 ixD (oPl 2) (oV (dC (.int 1)))))))) aNil))) (dEnd .nx))
    (dRet (d2 (inD false) (oPl 2) (oPl 1))))
def F_is_known : CF := cfOf 4 3 D_is_known
theorem sc_is_known : FnScope ["memory", "kept", "tag", "late"] ["memory", "kept", "tag"] (defScope s_is_known) := ⟨rfl, rfl, rfl, by decide +kernel, rfl, by decide +kernel, by decide +kernel⟩
theorem ok_is_known (Z : Ctx K mg) (Zb : Ctb K mg base) : FnAll P w K mg base (TT K) 2 (He.ga K "is_known") ["memory", "kept", "tag"] 3 F_is_known :=
  fnAll (k := 1) Z.f_is_known sc_is_known (fun _ _ _ _ _ _ us hl => match us, hl with | [_, _, _], _ => rfl) fun cdv A outer s H E hr => by
    have hN := sc_is_known.nd
    exact (dss_cons (ds_if (dt_cmp s_eq (op_eqD hr.units) (do_v (de_ix (do_pl (pv 0)) (do_v de_int))) (do_v de_str)) (dss_one (ds_ret (de_callB snd_any (cr_any rfl) (da_cons (do_lc (own := [("late", 3)]) rfl hN (by kernel_rfl) (by decide) (di_seq (de_name (pv 1))) (fun _ _ _ _ _ => (dg_name hN)) (fun _ _ _ _ _ => dts_nil) (fun _ _ _ _ _ => (de_and (de_cmp s_eq (op_eqD hr.units) (do_v (de_ix (do_pl (pv 3)) (do_v de_int))) (do_v (de_ix (do_pl (pv 2)) (do_v de_int)))) (de_one (de_cmp s_ge op_ge (do_v (de_ix (do_pl (pv 3)) (do_v de_int))) (do_v (de_ix (do_pl (pv 2)) (do_v de_int)))))))) da_nil) Z.n_any boot_any))) dss_nil)
    (dss_one (ds_ret (de_cmp s_in (op_inA (u65 hr)) (do_pl (pv 2)) (do_pl (pv 1))))))
def D_kept_behind : DSn :=
    (dSeq (dIte (dBl (d2 eqD (oV (d2 ixD (oPl 0) (oV (dC (.int 0))))) (oV (dC (.str "last"))))) (dRet (dL tupleD (aCons (oV (dL sortedD (aCons (oV (dLst (aStar (oLc (iSeq (dName 1)) [3] (gNm 3) (dBl (d2 neD (oV (d2 ixD (oPl 3) (oV (dC (.int 0))))) (oV (d2 ixD (oPl 2) (oV (dC (.int 0))))))) (dName 3)) (aCons (oV (dName 2)) aNil)))) aNil))) aNil))) (dEnd .nx))
    (dSeq (dSet 3 (oV (dTup (aStar (oPl 1) (aCons (oV (dName 2)) aNil)))))
    (dRet (dIf (dBl (d2 eqD (oV (d2 ixD (oPl 0) (oV (dC (.int 0))))) (oV (dC (.str "window"))))) (dSl (oPl 3) (pSome (dL max2D (aCons (oV (dC (.int 0))) (aCons (oV (d2 (i0D fun i j => .int (i - j)) (oV (dL lenD (aCons (oPl 3) aNil))) (oV (d2 ixD (oPl 0) (oV (dC (.int 1))))))) aNil)))) pNo) (dName 3)))))
def F_kept_behind : CF := cfOf 4 3 D_kept_behind
theorem sc_kept_behind : FnScope ["memory", "kept", "tag", "late"] ["memory", "kept", "tag"] (defScope s_kept_behind) := ⟨rfl, rfl, rfl, by decide +kernel, rfl, by decide +kernel, by decide +kernel⟩
theorem ok_kept_behind (Z : Ctx K mg) (Zb : Ctb K mg base) : FnAll P w K mg base (TT K) 2 (He.ga K "kept_behind") ["memory", "kept", "tag"] 3 F_kept_behind :=
  fnAll (k := 1) Z.f_kept_behind sc_kept_behind (fun _ _ _ _ _ _ us hl => match us, hl with | [_, _, _], _ => rfl) fun cdv A outer s H E hr => by
    have hN := sc_kept_behind.nd
    exact (dss_cons (ds_if (dt_cmp s_eq (op_eqD hr.units) (do_v (de_ix (do_pl (pv 0)) (do_v de_int))) (do_v de_str)) (dss_one (ds_ret (de_callTy snd_tuple call_tupleP (da_cons (do_v (de_callB snd_sorted (Zd.CallR.or cr_sortedI cr_sortedPZ) (da_cons (do_v (de_lst (da_star (do_lc (own := [("late", 3)]) rfl hN (by kernel_rfl) (by decide) (di_seq (de_name (pv 1))) (fun _ _ _ _ _ => (dg_name hN)) (fun _ _ _ _ _ => (dts_one (dt_cmp s_ne (op_neD hr.units) (do_v (de_ix (do_pl (pv 3)) (do_v de_int))) (do_v (de_ix (do_pl (pv 2)) (do_v de_int)))))) (fun _ _ _ _ _ => (de_name (pv 3)))) (da_cons (do_v (de_name (pv 2))) da_nil)))) da_nil) Z.n_sorted boot_sorted)) da_nil) Z.n_tuple boot_tuple))) dss_nil)
    (dss_cons (ds_set (i := 3) hN (do_v (de_tup (da_star (do_pl (pv 1)) (da_cons (do_v (de_name (pv 2))) da_nil)))))
    (dss_one (ds_ret (de_if (dt_cmp s_eq (op_eqD hr.units) (do_v (de_ix (do_pl (pv 0)) (do_v de_int))) (do_v de_str)) (de_slice (do_pl (pv 3)) (dp_some (de_callB snd_max2 (call_max2 rfl) (da_cons (do_v de_int) (da_cons (do_v (de_sub (do_v (de_callB snd_len call_len2 (da_cons (do_pl (pv 3)) da_nil) Z.n_len boot_len)) (do_v (de_ix (do_pl (pv 0)) (do_v de_int))))) da_nil)) Z.n_max boot_max)) dp_none) (de_name (pv 3)))))))
def D_done_by : DSn :=
    (dSeq (dDrop (oV (dCall F_check_memory (aCons (oPl 0) aNil))))
    (dSeq (dDrop (oV (dCall F_check_comes (aCons (oPl 1) aNil))))
    (dSeq (dPar [2, 3] (aCons (oV (dTup aNil)) (aCons (oLst aNil) aNil)))
    (dSeq (dFor (iSeq (dName 1)) (gNm 4)
    (dSeq (dSet 5 (oV (dNot (dBl (dCall F_is_known (aCons (oPl 0) (aCons (oPl 2) (aCons (oPl 4) aNil))))))))
    (dSeq (dApp 3 (dName 5))
    (dSet 2 (oV (dIf (dTru M_bool (oPl 5)) (dCall F_kept_behind (aCons (oPl 0) (aCons (oPl 2) (aCons (oPl 4) aNil)))) (dName 2)))))))
    (dRet (dL tupleD (aCons (oPl 3) aNil)))))))
def F_done_by : CF := cfOf 6 2 D_done_by
theorem sc_done_by : FnScope ["memory", "comes", "kept", "found", "tag", "is_done"] ["memory", "comes"] (defScope s_done_by) := ⟨rfl, rfl, rfl, by decide +kernel, rfl, by decide +kernel, by decide +kernel⟩
theorem ok_done_by (Z : Ctx K mg) (Zb : Ctb K mg base) : FnAll P w K mg base (TT K) 14 (He.ga K "done_by") ["memory", "comes"] 2 F_done_by :=
  fnAll (k := 13) Z.f_done_by sc_done_by (fun _ _ _ _ _ _ us hl => match us, hl with | [_, _], _ => rfl) fun cdv A outer s H E hr => by
    have hN := sc_done_by.nd
    exact (dss_cons (ds_expr (do_v (de_call px_cx ((ok_check_memory Z Zb).fok hr) Z.g_check_memory (da_cons (do_pl (pv 0)) da_nil))))
    (dss_cons (ds_expr (do_v (de_call px_cx ((ok_check_comes Z Zb).fok hr) Z.g_check_comes (da_cons (do_pl (pv 1)) da_nil))))
    (dss_cons (ds_par2 (i := 2) (j := 3) rfl hN (da_cons (do_v (de_tup da_nil)) (da_cons (do_lst da_nil) da_nil)))
    (dss_cons (ds_for hp_cx rfl (di_seq (de_name (pv 1))) (dg_name hN)
    (dss_cons (ds_set (i := 5) hN (do_v (de_not (de_call px_cx ((ok_is_known Z Zb).fok hr) Z.g_is_known (da_cons (do_pl (pv 0)) (da_cons (do_pl (pv 2)) (da_cons (do_pl (pv 4)) da_nil)))))))
    (dss_cons (ds_app (pv 3) (de_name (pv 5)))
    (dss_one (ds_set (i := 2) hN (do_v (de_if (dt_tru (bok_of hr (rows_bool Z Zb)) (do_pl (pv 5))) (de_call px_cx ((ok_kept_behind Z Zb).fok hr) Z.g_kept_behind (da_cons (do_pl (pv 0)) (da_cons (do_pl (pv 2)) (da_cons (do_pl (pv 4)) da_nil)))) (de_name (pv 2)))))))))
    (dss_one (ds_ret (de_callTy snd_tuple call_tupleP (da_cons (do_pl (pv 3)) da_nil) Z.n_tuple boot_tuple)))))))
def D_Misdonedd_initdd : DSn :=
    (dSeq (dSetFld 0 fp_place (dName 1))
    (dSetFld 0 fp_how (dName 2)))
def F_Misdonedd_initdd : CF := cfOf 3 3 D_Misdonedd_initdd
theorem sc_Misdonedd_initdd : FnScope ["self", "place", "how"] ["self", "place", "how"] (defScope s_Misdonedd_initdd) := ⟨rfl, rfl, rfl, by decide +kernel, rfl, by decide +kernel, by decide +kernel⟩
theorem ok_Misdonedd_initdd (Z : Ctx K mg) (Zb : Ctb K mg base) : FnAll P w K mg base (TT K) 2 (He.ma K (He.ga K "Misdone") "__init__") ["self", "place", "how"] 3 F_Misdonedd_initdd :=
  fnAll (k := 1) Z.f_Misdonedd_initdd sc_Misdonedd_initdd (fun _ _ _ _ _ _ us hl => match us, hl with | [_, _, _], _ => rfl) fun cdv A outer s H E hr => by
    have hN := sc_Misdonedd_initdd.nd
    exact (dss_cons (ds_setFld Z.a_place (pv 0) (de_name (pv 1)))
    (dss_one (ds_setFld Z.a_how (pv 0) (de_name (pv 2)))))
def D_judge_comes : DSn :=
    (dSeq (dFor (iVals enum1 (aCons (oV (dCall F_done_by (aCons (oPl 0) (aCons (oPl 1) aNil)))) aNil)) (gTp (gsCons (gNm 2) (gsCons (gNm 3) gsNil)))
    (dSeq (dSet 4 (oV (d2 (inD true) (oV (d2 ixD (oPl 1) (oPl 2))) (oV (dSl (oV (dL listD (aCons (oPl 1) aNil))) pNo (pSome (dName 2)))))))
    (dIte (dBl (d2 neD (oPl 3) (oPl 4))) (dRet (dFz (oMake 1 F_Misdonedd_initdd (aCons (oPl 2) (aCons (oV (dIf (dTru M_bool (oPl 3)) (dC (.str "twice")) (dC (.str "dropped")))) aNil))))) (dEnd .nx))))
    (dRet (dFz (oMake0 0))))
def F_judge_comes : CF := cfOf 5 2 D_judge_comes
theorem sc_judge_comes : FnScope ["memory", "comes", "place", "is_done", "is_first"] ["memory", "comes"] (defScope s_judge_comes) := ⟨rfl, rfl, rfl, by decide +kernel, rfl, by decide +kernel, by decide +kernel⟩
theorem ok_judge_comes (Z : Ctx K mg) (Zb : Ctb K mg base) : FnAll P w K mg base (TT K) 17 (He.ga K "judge_comes") ["memory", "comes"] 2 F_judge_comes :=
  fnAll (k := 16) Z.f_judge_comes sc_judge_comes (fun _ _ _ _ _ _ us hl => match us, hl with | [_, _], _ => rfl) fun cdv A outer s H E hr => by
    have hN := sc_judge_comes.nd
    exact (dss_cons (ds_for hp_cx rfl (di_enum (da_cons (do_v (de_call px_cx ((ok_done_by Z Zb).fok hr) Z.g_done_by (da_cons (do_pl (pv 0)) (da_cons (do_pl (pv 1)) da_nil)))) da_nil) Z.n_enumerate) (dg_tup rfl (dgs_cons (dg_name hN) (dgs_cons (dg_name hN) dgs_nil)) (takes_cons (takes_cons takes_nil)))
    (dss_cons (ds_set (i := 4) hN (do_v (de_cmp s_in (op_notInA (u65 hr)) (do_v (de_ix (do_pl (pv 1)) (do_pl (pv 2)))) (do_v (de_slice (do_v (de_callTy snd_list call_list_of (da_cons (do_pl (pv 1)) da_nil) Z.n_list boot_list)) dp_none (dp_some (de_name (pv 2))))))))
    (dss_one (ds_if (dt_cmp s_ne (op_neD hr.units) (do_pl (pv 3)) (do_pl (pv 4))) (dss_one (ds_ret (de_o (do_make px_cx ((ok_Misdonedd_initdd Z Zb).kok Z.mk_Misdone hr) Z.g_Misdone (da_cons (do_pl (pv 2)) (da_cons (do_v (de_if (dt_tru (bok_of hr (rows_bool Z Zb)) (do_pl (pv 3))) de_str de_str)) da_nil)))))) dss_nil))))
    (dss_one (ds_ret (de_o (do_make0 (c := 0) Z.mk_Just Z.g_Just)))))
def D_check_crowd : DSn :=
    (dSeq (dIte (tOrD (tNotD (dTru M_bool (oV (dCall F_is_row (aCons (oPl 0) aNil))))) (tNotD (dBl (d3 leD leD (oV (dC (.int 1))) (oV (dL lenD (aCons (oPl 0) aNil))) (oV (dC vv_MOST_CLIENTS)))))) (dRaise 0 2 (aCons (oV (dC (.str "lengths"))) (aCons (oV (dC .non)) aNil))) (dEnd .nx))
    (dSeq (dFor (iVals enum1 (aCons (oV (dName 0)) aNil)) (gTp (gsCons (gNm 3) (gsCons (gNm 4) gsNil)))
    (dIte (tNotD (dTru M_bool (oV (dCall F_is_number (aCons (oPl 4) (aCons (oV (dC (.int 0))) (aCons (oV (dC (.int 3))) aNil))))))) (dRaise 0 2 (aCons (oV (dC (.str "lengths"))) (aCons (oV (dName 3)) aNil))) (dEnd .nx)))
    (dSeq (dIte (tNotD (dTru M_bool (oV (dCall F_is_number (aCons (oPl 1) (aCons (oV (dC (.int 1))) (aCons (oV (dC (.int 3))) aNil))))))) (dRaise 0 2 (aCons (oV (dC (.str "times"))) (aCons (oV (dC .non)) aNil))) (dEnd .nx))
    (dIte (tNotD (dTru M_bool (oV (dCall F_is_number (aCons (oPl 2) (aCons (oV (dC (.int 0))) (aCons (oV (dC vv_MOST_WINDOW)) aNil))))))) (dRaise 0 2 (aCons (oV (dC (.str "gap"))) (aCons (oV (dC .non)) aNil))) (dEnd .nx)))))
def F_check_crowd : CF := cfOf 5 3 D_check_crowd
theorem sc_check_crowd : FnScope ["lengths", "times", "gap", "place", "many"] ["lengths", "times", "gap"] (defScope s_check_crowd) := ⟨rfl, rfl, rfl, by decide +kernel, rfl, by decide +kernel, by decide +kernel⟩
theorem ok_check_crowd (Z : Ctx K mg) (Zb : Ctb K mg base) : FnAll P w K mg base (TT K) 8 (He.ga K "check_crowd") ["lengths", "times", "gap"] 3 F_check_crowd :=
  fnAll (k := 7) Z.f_check_crowd sc_check_crowd (fun _ _ _ _ _ _ us hl => match us, hl with | [_, _, _], _ => rfl) fun cdv A outer s H E hr => by
    have hN := sc_check_crowd.nd
    exact (dss_cons (ds_if (dt_w (dw_or (dt_not (dt_tru (bok_of hr (rows_bool Z Zb)) (do_v (de_call px_cx ((ok_is_row Z Zb).fok hr) Z.g_is_row (da_cons (do_pl (pv 0)) da_nil))))) (dw_or1 (dt_not (dt_chain s_le op_le s_le op_le (do_v de_int) (do_v (de_callB snd_len call_len2 (da_cons (do_pl (pv 0)) da_nil) Z.n_len boot_len)) (do_v Z.c_MOST_CLIENTS)))))) (dss_one (ds_raise (xmk_BadPart Z hr) rfl tk_cx Z.g_BadPart (da_cons (do_v de_str) (da_cons (do_v de_non) da_nil)))) dss_nil)
    (dss_cons (ds_for hp_cx rfl (di_enum (da_cons (do_v (de_name (pv 0))) da_nil) Z.n_enumerate) (dg_tup rfl (dgs_cons (dg_name hN) (dgs_cons (dg_name hN) dgs_nil)) (takes_cons (takes_cons takes_nil)))
    (dss_one (ds_if (dt_not (dt_tru (bok_of hr (rows_bool Z Zb)) (do_v (de_call px_cx ((ok_is_number Z Zb).fok hr) Z.g_is_number (da_cons (do_pl (pv 4)) (da_cons (do_v de_int) (da_cons (do_v de_int) da_nil))))))) (dss_one (ds_raise (xmk_BadPart Z hr) rfl tk_cx Z.g_BadPart (da_cons (do_v de_str) (da_cons (do_v (de_name (pv 3))) da_nil)))) dss_nil)))
    (dss_cons (ds_if (dt_not (dt_tru (bok_of hr (rows_bool Z Zb)) (do_v (de_call px_cx ((ok_is_number Z Zb).fok hr) Z.g_is_number (da_cons (do_pl (pv 1)) (da_cons (do_v de_int) (da_cons (do_v de_int) da_nil))))))) (dss_one (ds_raise (xmk_BadPart Z hr) rfl tk_cx Z.g_BadPart (da_cons (do_v de_str) (da_cons (do_v de_non) da_nil)))) dss_nil)
    (dss_one (ds_if (dt_not (dt_tru (bok_of hr (rows_bool Z Zb)) (do_v (de_call px_cx ((ok_is_number Z Zb).fok hr) Z.g_is_number (da_cons (do_pl (pv 2)) (da_cons (do_v de_int) (da_cons (do_v Z.c_MOST_WINDOW) da_nil))))))) (dss_one (ds_raise (xmk_BadPart Z hr) rfl tk_cx Z.g_BadPart (da_cons (do_v de_str) (da_cons (do_v de_non) da_nil)))) dss_nil)))))
def D_rows_kept : DSn :=
    (dSeq (dDrop (oV (dCall F_check_memory (aCons (oPl 0) aNil))))
    (dSeq (dDrop (oV (dCall F_check_crowd (aCons (oPl 1) (aCons (oV (dC (.int 1))) (aCons (oV (dC (.int 0))) aNil))))))
    (dSeq (dIte (dBl (d2 eqD (oV (d2 ixD (oPl 0) (oV (dC (.int 0))))) (oV (dC (.str "last"))))) (dRet (dL lenD (aCons (oLc (iSeq (dName 1)) [2] (gNm 2) (dBl (d2 gtD (oPl 2) (oV (dC (.int 0))))) (dName 2)) aNil))) (dEnd .nx))
    (dRet (dIf (dBl (d2 eqD (oV (d2 ixD (oPl 0) (oV (dC (.int 0))))) (oV (dC (.str "window"))))) (dL min2D (aCons (oV (d2 ixD (oPl 0) (oV (dC (.int 1))))) (aCons (oV (dL sum2D (aCons (oPl 1) aNil))) aNil))) (dL sum2D (aCons (oPl 1) aNil)))))))
def F_rows_kept : CF := cfOf 3 2 D_rows_kept
theorem sc_rows_kept : FnScope ["memory", "lengths", "many"] ["memory", "lengths"] (defScope s_rows_kept) := ⟨rfl, rfl, rfl, by decide +kernel, rfl, by decide +kernel, by decide +kernel⟩
theorem ok_rows_kept (Z : Ctx K mg) (Zb : Ctb K mg base) : FnAll P w K mg base (TT K) 14 (He.ga K "rows_kept") ["memory", "lengths"] 2 F_rows_kept :=
  fnAll (k := 13) Z.f_rows_kept sc_rows_kept (fun _ _ _ _ _ _ us hl => match us, hl with | [_, _], _ => rfl) fun cdv A outer s H E hr => by
    have hN := sc_rows_kept.nd
    exact (dss_cons (ds_expr (do_v (de_call px_cx ((ok_check_memory Z Zb).fok hr) Z.g_check_memory (da_cons (do_pl (pv 0)) da_nil))))
    (dss_cons (ds_expr (do_v (de_call px_cx ((ok_check_crowd Z Zb).fok hr) Z.g_check_crowd (da_cons (do_pl (pv 1)) (da_cons (do_v de_int) (da_cons (do_v de_int) da_nil))))))
    (dss_cons (ds_if (dt_cmp s_eq (op_eqD hr.units) (do_v (de_ix (do_pl (pv 0)) (do_v de_int))) (do_v de_str)) (dss_one (ds_ret (de_callB snd_len call_len2 (da_cons (do_lc (own := [("many", 2)]) rfl hN (by kernel_rfl) (by decide) (di_seq (de_name (pv 1))) (fun _ _ _ _ _ => (dg_name hN)) (fun _ _ _ _ _ => (dts_one (dt_cmp s_gt op_gt (do_pl (pv 2)) (do_v de_int)))) (fun _ _ _ _ _ => (de_name (pv 2)))) da_nil) Z.n_len boot_len))) dss_nil)
    (dss_one (ds_ret (de_if (dt_cmp s_eq (op_eqD hr.units) (do_v (de_ix (do_pl (pv 0)) (do_v de_int))) (do_v de_str)) (de_callB snd_min2 (call_min2 rfl) (da_cons (do_v (de_ix (do_pl (pv 0)) (do_v de_int))) (da_cons (do_v (de_callB snd_sum2 (call_sumS rfl) (da_cons (do_pl (pv 1)) da_nil) Z.n_sum boot_sum)) da_nil)) Z.n_min boot_min) (de_callB snd_sum2 (call_sumS rfl) (da_cons (do_pl (pv 1)) da_nil) Z.n_sum boot_sum)))))))
def D_doubles_in : DSn :=
    (dSeq (dDrop (oV (dCall F_check_comes (aCons (oPl 0) aNil))))
    (dRet (dL tupleD (aCons (oLc (iVals enum1 (aCons (oV (dName 0)) aNil)) [1, 2] (gTp (gsCons (gNm 1) (gsCons (gNm 2) gsNil))) (dBl (d2 (inD false) (oPl 2) (oV (dSl (oV (dL listD (aCons (oPl 0) aNil))) pNo (pSome (dName 1)))))) (dName 1)) aNil))))
def F_doubles_in : CF := cfOf 3 1 D_doubles_in
theorem sc_doubles_in : FnScope ["comes", "place", "tag"] ["comes"] (defScope s_doubles_in) := ⟨rfl, rfl, rfl, by decide +kernel, rfl, by decide +kernel, by decide +kernel⟩
theorem ok_doubles_in (Z : Ctx K mg) (Zb : Ctb K mg base) : FnAll P w K mg base (TT K) 14 (He.ga K "doubles_in") ["comes"] 1 F_doubles_in :=
  fnAll (k := 13) Z.f_doubles_in sc_doubles_in (fun _ _ _ _ _ _ us hl => match us, hl with | [_], _ => rfl) fun cdv A outer s H E hr => by
    have hN := sc_doubles_in.nd
    exact (dss_cons (ds_expr (do_v (de_call px_cx ((ok_check_comes Z Zb).fok hr) Z.g_check_comes (da_cons (do_pl (pv 0)) da_nil))))
    (dss_one (ds_ret (de_callTy snd_tuple call_tupleP (da_cons (do_lc (own := [("place", 1), ("tag", 2)]) rfl hN (by kernel_rfl) (by decide) (di_enum (da_cons (do_v (de_name (pv 0))) da_nil) Z.n_enumerate) (fun _ _ _ _ _ => (dg_tup rfl (dgs_cons (dg_name hN) (dgs_cons (dg_name hN) dgs_nil)) (takes_cons (takes_cons takes_nil)))) (fun _ _ _ _ _ => (dts_one (dt_cmp s_in (op_inA (u65 hr)) (do_pl (pv 2)) (do_v (de_slice (do_v (de_callTy snd_list call_list_of (da_cons (do_pl (pv 0)) da_nil) Z.n_list boot_list)) dp_none (dp_some (de_name (pv 1)))))))) (fun _ _ _ _ _ => (de_name (pv 1)))) da_nil) Z.n_tuple boot_tuple))))
def D_may_come : DSn :=
    (dSeq (dAsg (dName 4) (gTp (gsCons (gNm 5) (gsCons (gNm 6) gsNil))))
    (dSeq (dIte (tOrD (dBl (d2 geD (oPl 5) (oV (dL lenD (aCons (oPl 0) aNil))))) (tOrD (dBl (d2 geD (oPl 6) (oV (d2 ixD (oPl 0) (oPl 5))))) (dBl (d2 geD (oV (dTM countD (oPl 3) (aCons (oPl 4) aNil))) (oPl 1))))) (dRet (dC (.bl false))) (dEnd .nx))
    (dSeq (dIte (tAndD (dBl (d2 gtD (oPl 6) (oV (dC (.int 0))))) (dBl (d2 (inD true) (oV (dTup (aCons (oV (dName 5)) (aCons (oV (d2 (i0D fun i j => .int (i - j)) (oPl 6) (oV (dC (.int 1))))) aNil)))) (oPl 3)))) (dRet (dC (.bl false))) (dEnd .nx))
    (dRet (dOr (d2 (inD true) (oPl 4) (oPl 3)) (d2 leD (oV (d2 (i0D fun i j => .int (i - j)) (oV (d2 (i0D fun i j => .int (i - j)) (oV (dL lenD (aCons (oPl 3) aNil))) (oV (dC (.int 1))))) (oV (dL maxD (aCons (oLc (iVals enum1 (aCons (oV (dName 3)) aNil)) [7, 8] (gTp (gsCons (gNm 7) (gsCons (gNm 8) gsNil))) (dBl (d2 eqD (oPl 8) (oPl 4))) (dName 7)) aNil))))) (oPl 2)))))))
def F_may_come : CF := cfOf 9 5 D_may_come
theorem sc_may_come : FnScope ["lengths", "times", "gap", "seen", "tag", "client", "number", "at", "late"] ["lengths", "times", "gap", "seen", "tag"] (defScope s_may_come) := ⟨rfl, rfl, rfl, by decide +kernel, rfl, by decide +kernel, by decide +kernel⟩
theorem ok_may_come (Z : Ctx K mg) (Zb : Ctb K mg base) : FnAll P w K mg base (TT K) 2 (He.ga K "may_come") ["lengths", "times", "gap", "seen", "tag"] 5 F_may_come :=
  fnAll (k := 1) Z.f_may_come sc_may_come (fun _ _ _ _ _ _ us hl => match us, hl with | [_, _, _, _, _], _ => rfl) fun cdv A outer s H E hr => by
    have hN := sc_may_come.nd
    exact (dss_cons (ds_asg (de_name (pv 4)) (dg_tup rfl (dgs_cons (dg_name hN) (dgs_cons (dg_name hN) dgs_nil)) (takes_cons (takes_cons takes_nil))))
    (dss_cons (ds_if (dt_w (dw_or (dt_cmp s_ge op_ge (do_pl (pv 5)) (do_v (de_callB snd_len call_len2 (da_cons (do_pl (pv 0)) da_nil) Z.n_len boot_len))) (dw_or (dt_cmp s_ge op_ge (do_pl (pv 6)) (do_v (de_ix (do_pl (pv 0)) (do_pl (pv 5))))) (dw_or1 (dt_cmp s_ge op_ge (do_v (de_tm snd_count PySem.F.slot_tuple_count PySem.F.type_tuple_count (mt_cntD (u65 hr)) (do_pl (pv 3)) (da_cons (do_pl (pv 4)) da_nil))) (do_pl (pv 1))))))) (dss_one (ds_ret de_bl)) dss_nil)
    (dss_cons (ds_if (dt_w (dw_and (dt_cmp s_gt op_gt (do_pl (pv 6)) (do_v de_int)) (dw_and1 (dt_cmp s_in (op_notInA (u65 hr)) (do_v (de_tup (da_cons (do_v (de_name (pv 5))) (da_cons (do_v (de_sub (do_pl (pv 6)) (do_v de_int))) da_nil)))) (do_pl (pv 3)))))) (dss_one (ds_ret de_bl)) dss_nil)
    (dss_one (ds_ret (de_or (de_cmp s_in (op_notInA (u65 hr)) (do_pl (pv 4)) (do_pl (pv 3))) (de_one (de_cmp s_le op_le (do_v (de_sub (do_v (de_sub (do_v (de_callB snd_len call_len2 (da_cons (do_pl (pv 3)) da_nil) Z.n_len boot_len)) (do_v de_int))) (do_v (de_callB snd_maxS (call_maxS rfl) (da_cons (do_lc (own := [("at", 7), ("late", 8)]) rfl hN (by kernel_rfl) (by decide) (di_enum (da_cons (do_v (de_name (pv 3))) da_nil) Z.n_enumerate) (fun _ _ _ _ _ => (dg_tup rfl (dgs_cons (dg_name hN) (dgs_cons (dg_name hN) dgs_nil)) (takes_cons (takes_cons takes_nil)))) (fun _ _ _ _ _ => (dts_one (dt_cmp s_eq (op_eqD hr.units) (do_pl (pv 8)) (do_pl (pv 4))))) (fun _ _ _ _ _ => (de_name (pv 7)))) da_nil) Z.n_max boot_max)))) (do_pl (pv 2))))))))))
def D_are_coming : DSn :=
    (dSeq (dDrop (oV (dCall F_check_crowd (aCons (oPl 0) (aCons (oPl 1) (aCons (oPl 2) aNil))))))
    (dSeq (dDrop (oV (dCall F_check_comes (aCons (oPl 3) aNil))))
    (dSeq (dSet 4 (oLst aNil))
    (dSeq (dFor (iVals enum1 (aCons (oV (dName 3)) aNil)) (gTp (gsCons (gNm 5) (gsCons (gNm 6) gsNil)))
    (dSeq (dIte (tNotD (dTru M_bool (oV (dCall F_may_come (aCons (oPl 0) (aCons (oPl 1) (aCons (oPl 2) (aCons (oV (dL tupleD (aCons (oPl 4) aNil))) (aCons (oPl 6) aNil))))))))) (dRet (dC (.bl false))) (dEnd .nx))
    (dApp 4 (dName 6))))
    (dRet (dC (.bl true)))))))
def F_are_coming : CF := cfOf 7 4 D_are_coming
theorem sc_are_coming : FnScope ["lengths", "times", "gap", "comes", "seen", "place", "tag"] ["lengths", "times", "gap", "comes"] (defScope s_are_coming) := ⟨rfl, rfl, rfl, by decide +kernel, rfl, by decide +kernel, by decide +kernel⟩
theorem ok_are_coming (Z : Ctx K mg) (Zb : Ctb K mg base) : FnAll P w K mg base (TT K) 14 (He.ga K "are_coming") ["lengths", "times", "gap", "comes"] 4 F_are_coming :=
  fnAll (k := 13) Z.f_are_coming sc_are_coming (fun _ _ _ _ _ _ us hl => match us, hl with | [_, _, _, _], _ => rfl) fun cdv A outer s H E hr => by
    have hN := sc_are_coming.nd
    exact (dss_cons (ds_expr (do_v (de_call px_cx ((ok_check_crowd Z Zb).fok hr) Z.g_check_crowd (da_cons (do_pl (pv 0)) (da_cons (do_pl (pv 1)) (da_cons (do_pl (pv 2)) da_nil))))))
    (dss_cons (ds_expr (do_v (de_call px_cx ((ok_check_comes Z Zb).fok hr) Z.g_check_comes (da_cons (do_pl (pv 3)) da_nil))))
    (dss_cons (ds_set (i := 4) hN (do_lst da_nil))
    (dss_cons (ds_for hp_cx rfl (di_enum (da_cons (do_v (de_name (pv 3))) da_nil) Z.n_enumerate) (dg_tup rfl (dgs_cons (dg_name hN) (dgs_cons (dg_name hN) dgs_nil)) (takes_cons (takes_cons takes_nil)))
    (dss_cons (ds_if (dt_not (dt_tru (bok_of hr (rows_bool Z Zb)) (do_v (de_call px_cx ((ok_may_come Z Zb).fok hr) Z.g_may_come (da_cons (do_pl (pv 0)) (da_cons (do_pl (pv 1)) (da_cons (do_pl (pv 2)) (da_cons (do_v (de_callTy snd_tuple call_tupleP (da_cons (do_pl (pv 4)) da_nil) Z.n_tuple boot_tuple)) (da_cons (do_pl (pv 6)) da_nil))))))))) (dss_one (ds_ret de_bl)) dss_nil)
    (dss_one (ds_app (pv 4) (de_name (pv 6))))))
    (dss_one (ds_ret de_bl))))))
def D_Just_shows : DSn :=
    (dRet (dBoolC M_bool (oV (dCall F_judge_comes (aCons (oPl 1) (aCons (oPl 2) aNil))))))
def F_Just_shows : CF := cfOf 3 3 D_Just_shows
theorem sc_Just_shows : FnScope ["self", "memory", "comes"] ["self", "memory", "comes"] (defScope s_Just_shows) := ⟨rfl, rfl, rfl, by decide +kernel, rfl, by decide +kernel, by decide +kernel⟩
theorem ok_Just_shows (Z : Ctx K mg) (Zb : Ctb K mg base) : FnAll P w K mg base (TT K) 20 (He.ma K (He.ga K "Just") "shows") ["self", "memory", "comes"] 3 F_Just_shows :=
  fnAll (k := 19) Z.f_Just_shows sc_Just_shows (fun _ _ _ _ _ _ us hl => match us, hl with | [_, _, _], _ => rfl) fun cdv A outer s H E hr => by
    have hN := sc_Just_shows.nd
    exact (dss_one (ds_ret (de_bool (bok_of (room_in hr) (rows_bool Z Zb)) (do_v (de_call px_cx ((ok_judge_comes Z Zb).fok hr) Z.g_judge_comes (da_cons (do_pl (pv 1)) (da_cons (do_pl (pv 2)) da_nil)))) Z.n_bool)))
def D_Justdd_eqdd : DSn :=
    (dRet (dIsC iz_Just (oPl 1)))
def F_Justdd_eqdd : CF := cfOf 2 2 D_Justdd_eqdd
theorem sc_Justdd_eqdd : FnScope ["self", "other"] ["self", "other"] (defScope s_Justdd_eqdd) := ⟨rfl, rfl, rfl, by decide +kernel, rfl, by decide +kernel, by decide +kernel⟩
theorem ok_Justdd_eqdd (Z : Ctx K mg) (Zb : Ctb K mg base) : FnAll P w K mg base (TT K) 2 (He.ma K (He.ga K "Just") "__eq__") ["self", "other"] 2 F_Justdd_eqdd :=
  fnAll (k := 1) Z.f_Justdd_eqdd sc_Justdd_eqdd (fun _ _ _ _ _ _ us hl => match us, hl with | [_, _], _ => rfl) fun cdv A outer s H E hr => by
    have hN := sc_Justdd_eqdd.nd
    exact (dss_one (ds_ret (de_isc (c' := 0) Z.is_Just (do_pl (pv 1)) Z.n_isinstance Z.g_Just)))
def D_Misdonedd_eqdd : DSn :=
    (dRet (dAnd (dIsC iz_Misdone (oPl 1)) (d2 eqD (oV (dTup (aCons (oV (dFld fp_place (oPl 0))) (aCons (oV (dFld fp_how (oPl 0))) aNil)))) (oV (dTup (aCons (oV (dFld fp_place (oPl 1))) (aCons (oV (dFld fp_how (oPl 1))) aNil)))))))
def F_Misdonedd_eqdd : CF := cfOf 2 2 D_Misdonedd_eqdd
theorem sc_Misdonedd_eqdd : FnScope ["self", "other"] ["self", "other"] (defScope s_Misdonedd_eqdd) := ⟨rfl, rfl, rfl, by decide +kernel, rfl, by decide +kernel, by decide +kernel⟩
theorem ok_Misdonedd_eqdd (Z : Ctx K mg) (Zb : Ctb K mg base) : FnAll P w K mg base (TT K) 2 (He.ma K (He.ga K "Misdone") "__eq__") ["self", "other"] 2 F_Misdonedd_eqdd :=
  fnAll (k := 1) Z.f_Misdonedd_eqdd sc_Misdonedd_eqdd (fun _ _ _ _ _ _ us hl => match us, hl with | [_, _], _ => rfl) fun cdv A outer s H E hr => by
    have hN := sc_Misdonedd_eqdd.nd
    exact (dss_one (ds_ret (de_and (de_isc (c' := 1) Z.is_Misdone (do_pl (pv 1)) Z.n_isinstance Z.g_Misdone) (de_one (de_cmp s_eq (op_eqD hr.units) (do_v (de_tup (da_cons (do_v (de_fld Z.a_place (do_pl (pv 0)))) (da_cons (do_v (de_fld Z.a_how (do_pl (pv 0)))) da_nil)))) (do_v (de_tup (da_cons (do_v (de_fld Z.a_place (do_pl (pv 1)))) (da_cons (do_v (de_fld Z.a_how (do_pl (pv 1)))) da_nil)))))))))
def M_eq : Nat → Option CF
  | 0 => some F_Justdd_eqdd
  | 1 => some F_Misdonedd_eqdd
  | _ => none
def Pr_eq (c d : Nat) : Bool := [0, 1].contains c && [0, 1].contains d
theorem qok {X : Cx} {k' : Nat} (Z : Ctx X.K X.mg) (Zb : Ctb X.K X.mg X.base) (hr : Room k' X.A) (hk : 3 ≤ k' := by decide) : QOk X (TT X.K) M_eq Pr_eq := by
  refine ⟨fun c F e => ?_, fun c d h => ?_⟩
  · unfold M_eq at e
    split at e
    · cases e; exact eqR_of (ok_Justdd_eqdd Z Zb) rfl Z.eq_Just hr (Nat.le_trans (by decide) hk)
    · cases e; exact eqR_of (ok_Misdonedd_eqdd Z Zb) rfl Z.eq_Misdone hr (Nat.le_trans (by decide) hk)
    · cases e
  · simp only [Pr_eq, Bool.and_eq_true, List.contains_iff_mem] at h
    have key : ∀ c, c ∈ ([0, 1] : List Nat) → nmC c ∈ (["Just", "Misdone"] : List Str) := by decide +kernel
    exact nf_ok Z.nf_ (key c h.1) (key d h.2)
def D_Misdone_shows : DSn :=
    (dRet (dEqM false M_eq Pr_eq (oV (dCall F_judge_comes (aCons (oPl 1) (aCons (oPl 2) aNil)))) (oPl 0)))
def F_Misdone_shows : CF := cfOf 3 3 D_Misdone_shows
theorem sc_Misdone_shows : FnScope ["self", "memory", "comes"] ["self", "memory", "comes"] (defScope s_Misdone_shows) := ⟨rfl, rfl, rfl, by decide +kernel, rfl, by decide +kernel, by decide +kernel⟩
theorem ok_Misdone_shows (Z : Ctx K mg) (Zb : Ctb K mg base) : FnAll P w K mg base (TT K) 20 (He.ma K (He.ga K "Misdone") "shows") ["self", "memory", "comes"] 3 F_Misdone_shows :=
  fnAll (k := 19) Z.f_Misdone_shows sc_Misdone_shows (fun _ _ _ _ _ _ us hl => match us, hl with | [_, _, _], _ => rfl) fun cdv A outer s H E hr => by
    have hN := sc_Misdone_shows.nd
    exact (dss_one (ds_ret (de_eqM (qok Z Zb hr) hr.units (do_v (de_call px_cx ((ok_judge_comes Z Zb).fok hr) Z.g_judge_comes (da_cons (do_pl (pv 1)) (da_cons (do_pl (pv 2)) da_nil)))) (do_pl (pv 0)))))
def D__law_can : DSn :=
    (dSeq (dFor (iVals enum1 (aCons (oV (dName 3)) aNil)) (gTp (gsCons (gNm 4) (gsCons (gTp (gsCons (gNm 5) (gsCons (gNm 6) gsNil))) gsNil)))
    (dSeq (dSet 8 (oLc (iRes rng1 (aCons (oPl 4) aNil)) [7] (gNm 7) (dBl (d2 eqD (oV (d2 ixD (oPl 3) (oPl 7))) (oV (dTup (aCons (oV (dName 5)) (aCons (oV (dName 6)) aNil)))))) (dName 7)))
    (dSeq (dIte (tOrD (dBl (d2 geD (oPl 5) (oV (dL lenD (aCons (oPl 0) aNil))))) (tOrD (dBl (d2 geD (oPl 6) (oV (d2 ixD (oPl 0) (oPl 5))))) (tOrD (dBl (d2 geD (oV (dL lenD (aCons (oPl 8) aNil))) (oPl 1))) (tAndD (dBl (d2 neD (oPl 8) (oLst aNil))) (dBl (d2 gtD (oV (d2 (i0D fun i j => .int (i - j)) (oV (d2 (i0D fun i j => .int (i - j)) (oPl 4) (oV (d2 ixD (oPl 8) (oV (dNeg (oV (dC (.int 1))))))))) (oV (dC (.int 1))))) (oPl 2))))))) (dRet (dC (.bl false))) (dEnd .nx))
    (dIte (tAndD (dBl (d2 gtD (oPl 6) (oV (dC (.int 0))))) (dBl (d2 (inD true) (oV (dTup (aCons (oV (dName 5)) (aCons (oV (d2 (i0D fun i j => .int (i - j)) (oPl 6) (oV (dC (.int 1))))) aNil)))) (oV (dSl (oPl 3) pNo (pSome (dName 4))))))) (dRet (dC (.bl false))) (dEnd .nx)))))
    (dRet (dC (.bl true))))
def F__law_can : CF := cfOf 9 4 D__law_can
theorem sc__law_can : FnScope ["lengths", "times", "gap", "comes", "place", "client", "number", "at", "ahead"] ["lengths", "times", "gap", "comes"] (defScope s__law_can) := ⟨rfl, rfl, rfl, by decide +kernel, rfl, by decide +kernel, by decide +kernel⟩
theorem ok__law_can (Z : Ctx K mg) (Zb : Ctb K mg base) : FnAll P w K mg base (TT K) 2 (He.ga K "_law_can") ["lengths", "times", "gap", "comes"] 4 F__law_can :=
  fnAll (k := 1) Z.f__law_can sc__law_can (fun _ _ _ _ _ _ us hl => match us, hl with | [_, _, _, _], _ => rfl) fun cdv A outer s H E hr => by
    have hN := sc__law_can.nd
    exact (dss_cons (ds_for hp_cx rfl (di_enum (da_cons (do_v (de_name (pv 3))) da_nil) Z.n_enumerate) (dg_tup rfl (dgs_cons (dg_name hN) (dgs_cons (dg_tup rfl (dgs_cons (dg_name hN) (dgs_cons (dg_name hN) dgs_nil)) (takes_cons (takes_cons takes_nil))) dgs_nil)) (takes_cons (takes_cons takes_nil)))
    (dss_cons (by first | exact (ds_set (i := 8) hN (do_lc (own := [("at", 7)]) rfl hN (by kernel_rfl) (by decide) (di_range1 (da_cons (do_pl (pv 4)) da_nil) Z.n_range) (fun _ _ _ _ _ => (dg_name hN)) (fun _ _ _ _ _ => (dts_one (dt_cmp s_eq (op_eqD hr.units) (do_v (de_ix (do_pl (pv 3)) (do_pl (pv 7)))) (do_v (de_tup (da_cons (do_v (de_name (pv 5))) (da_cons (do_v (de_name (pv 6))) da_nil))))))) (fun _ _ _ _ _ => (de_name (pv 7))))) | exact (ds_setLc (i := 8) (own := [("at", 7)]) rfl hN (by kernel_rfl) (by decide) (di_range1 (da_cons (do_pl (pv 4)) da_nil) Z.n_range) (fun _ _ _ _ _ => (dg_name hN)) (fun _ _ _ _ _ => (dts_one (dt_cmp s_eq (op_eqD hr.units) (do_v (de_ix (do_pl (pv 3)) (do_pl (pv 7)))) (do_v (de_tup (da_cons (do_v (de_name (pv 5))) (da_cons (do_v (de_name (pv 6))) da_nil))))))) (fun _ _ _ _ _ => (de_name (pv 7))) (sw_true rfl rfl rfl (by decide +kernel))))
    (dss_cons (ds_if (dt_w (dw_or (dt_cmp s_ge op_ge (do_pl (pv 5)) (do_v (de_callB snd_len call_len2 (da_cons (do_pl (pv 0)) da_nil) Z.n_len boot_len))) (dw_or (dt_cmp s_ge op_ge (do_pl (pv 6)) (do_v (de_ix (do_pl (pv 0)) (do_pl (pv 5))))) (dw_or (dt_cmp s_ge op_ge (do_v (de_callB snd_len call_len2 (da_cons (do_pl (pv 8)) da_nil) Z.n_len boot_len)) (do_pl (pv 1))) (dw_or1 (dt_w (dw_and (dt_cmp s_ne (op_neD hr.units) (do_pl (pv 8)) (do_lst da_nil)) (dw_and1 (dt_cmp s_gt op_gt (do_v (de_sub (do_v (de_sub (do_pl (pv 4)) (do_v (de_ix (do_pl (pv 8)) (do_v (de_neg (do_v de_int))))))) (do_v de_int))) (do_pl (pv 2))))))))))) (dss_one (ds_ret de_bl)) dss_nil)
    (dss_one (ds_if (dt_w (dw_and (dt_cmp s_gt op_gt (do_pl (pv 6)) (do_v de_int)) (dw_and1 (dt_cmp s_in (op_notInA (u65 hr)) (do_v (de_tup (da_cons (do_v (de_name (pv 5))) (da_cons (do_v (de_sub (do_pl (pv 6)) (do_v de_int))) da_nil)))) (do_v (de_slice (do_pl (pv 3)) dp_none (dp_some (de_name (pv 4))))))))) (dss_one (ds_ret de_bl)) dss_nil)))))
    (dss_one (ds_ret de_bl)))
def D__law_done : DSn :=
    (dSeq (dPar [2, 3] (aCons (oLst aNil) (aCons (oLst aNil) aNil)))
    (dSeq (dFor (iSeq (dName 1)) (gTp (gsCons (gNm 4) (gsCons (gNm 5) gsNil)))
    (dSeq (dIte (dBl (d2 eqD (oV (d2 ixD (oPl 0) (oV (dC (.int 0))))) (oV (dC (.str "last"))))) (dSet 8 (oV (dL anyD (aCons (oLc (iSeq (dName 2)) [6, 7] (gTp (gsCons (gNm 6) (gsCons (gNm 7) gsNil))) tTrue (dAnd (d2 eqD (oPl 6) (oPl 4)) (d2 geD (oPl 7) (oPl 5)))) aNil)))) (dIte (dBl (d2 eqD (oV (d2 ixD (oPl 0) (oV (dC (.int 0))))) (oV (dC (.str "window"))))) (dSet 8 (oV (d2 (inD false) (oV (dTup (aCons (oV (dName 4)) (aCons (oV (dName 5)) aNil)))) (oV (dIf (dBl (d2 gtD (oV (d2 ixD (oPl 0) (oV (dC (.int 1))))) (oV (dC (.int 0))))) (dSl (oPl 2) (pSome (dNeg (oV (d2 ixD (oPl 0) (oV (dC (.int 1))))))) pNo) (dLst aNil)))))) (dSet 8 (oV (d2 (inD false) (oV (dTup (aCons (oV (dName 4)) (aCons (oV (dName 5)) aNil)))) (oPl 2))))))
    (dPar [3, 2] (aCons (oV (d2 addD (oPl 3) (oLst (aCons (oV (dNot (dBl (dName 8)))) aNil)))) (aCons (oV (d2 addD (oPl 2) (oV (dIf (dTru M_bool (oPl 8)) (dLst aNil) (dLst (aCons (oV (dTup (aCons (oV (dName 4)) (aCons (oV (dName 5)) aNil)))) aNil)))))) aNil)))))
    (dRet (dL tupleD (aCons (oPl 3) aNil)))))
def F__law_done : CF := cfOf 9 2 D__law_done
theorem sc__law_done : FnScope ["memory", "comes", "kept", "found", "client", "number", "one", "late", "known"] ["memory", "comes"] (defScope s__law_done) := ⟨rfl, rfl, rfl, by decide +kernel, rfl, by decide +kernel, by decide +kernel⟩
theorem ok__law_done (Z : Ctx K mg) (Zb : Ctb K mg base) : FnAll P w K mg base (TT K) 5 (He.ga K "_law_done") ["memory", "comes"] 2 F__law_done :=
  fnAll (k := 4) Z.f__law_done sc__law_done (fun _ _ _ _ _ _ us hl => match us, hl with | [_, _], _ => rfl) fun cdv A outer s H E hr => by
    have hN := sc__law_done.nd
    exact (dss_cons (ds_par2 (i := 2) (j := 3) rfl hN (da_cons (do_lst da_nil) (da_cons (do_lst da_nil) da_nil)))
    (dss_cons (ds_for hp_cx rfl (di_seq (de_name (pv 1))) (dg_tup rfl (dgs_cons (dg_name hN) (dgs_cons (dg_name hN) dgs_nil)) (takes_cons (takes_cons takes_nil)))
    (dss_cons (ds_if (dt_cmp s_eq (op_eqD hr.units) (do_v (de_ix (do_pl (pv 0)) (do_v de_int))) (do_v de_str)) (dss_one (ds_set (i := 8) hN (do_v (de_callB snd_any (cr_any rfl) (da_cons (do_lc (own := [("one", 6), ("late", 7)]) rfl hN (by kernel_rfl) (by decide) (di_seq (de_name (pv 2))) (fun _ _ _ _ _ => (dg_tup rfl (dgs_cons (dg_name hN) (dgs_cons (dg_name hN) dgs_nil)) (takes_cons (takes_cons takes_nil)))) (fun _ _ _ _ _ => dts_nil) (fun _ _ _ _ _ => (de_and (de_cmp s_eq (op_eqD hr.units) (do_pl (pv 6)) (do_pl (pv 4))) (de_one (de_cmp s_ge op_ge (do_pl (pv 7)) (do_pl (pv 5))))))) da_nil) Z.n_any boot_any)))) (dss_one (ds_if (dt_cmp s_eq (op_eqD hr.units) (do_v (de_ix (do_pl (pv 0)) (do_v de_int))) (do_v de_str)) (dss_one (ds_set (i := 8) hN (do_v (de_cmp s_in (op_inA (u65 hr)) (do_v (de_tup (da_cons (do_v (de_name (pv 4))) (da_cons (do_v (de_name (pv 5))) da_nil)))) (do_v (de_if (dt_cmp s_gt op_gt (do_v (de_ix (do_pl (pv 0)) (do_v de_int))) (do_v de_int)) (de_slice (do_pl (pv 2)) (dp_some (de_neg (do_v (de_ix (do_pl (pv 0)) (do_v de_int))))) dp_none) (de_lst da_nil))))))) (dss_one (ds_set (i := 8) hN (do_v (de_cmp s_in (op_inA (u65 hr)) (do_v (de_tup (da_cons (do_v (de_name (pv 4))) (da_cons (do_v (de_name (pv 5))) da_nil)))) (do_pl (pv 2)))))))))
    (dss_one (ds_par2 (i := 3) (j := 2) rfl hN (da_cons (do_v (de_add (do_pl (pv 3)) (do_lst (da_cons (do_v (de_not (de_name (pv 8)))) da_nil)))) (da_cons (do_v (de_add (do_pl (pv 2)) (do_v (de_if (dt_tru (bok_of hr (rows_bool Z Zb)) (do_pl (pv 8))) (de_lst da_nil) (de_lst (da_cons (do_v (de_tup (da_cons (do_v (de_name (pv 4))) (da_cons (do_v (de_name (pv 5))) da_nil)))) da_nil)))))) da_nil))))))
    (dss_one (ds_ret (de_callTy snd_tuple call_tupleP (da_cons (do_pl (pv 3)) da_nil) Z.n_tuple boot_tuple)))))
def D__law_judged : DSn :=
    (dSeq (dFor (iVals enum1 (aCons (oV (dCall F__law_done (aCons (oPl 0) (aCons (oPl 1) aNil)))) aNil)) (gTp (gsCons (gNm 2) (gsCons (gNm 3) gsNil)))
    (dSeq (dSet 4 (oV (d2 (inD true) (oV (d2 ixD (oPl 1) (oPl 2))) (oV (dSl (oPl 1) pNo (pSome (dName 2)))))))
    (dIte (dBl (d2 neD (oPl 3) (oPl 4))) (dRet (dTup (aCons (oV (dName 2)) (aCons (oV (dIf (dTru M_bool (oPl 3)) (dC (.str "twice")) (dC (.str "dropped")))) aNil)))) (dEnd .nx))))
    (dRet (dC .non)))
def F__law_judged : CF := cfOf 5 2 D__law_judged
theorem sc__law_judged : FnScope ["memory", "comes", "place", "done", "first"] ["memory", "comes"] (defScope s__law_judged) := ⟨rfl, rfl, rfl, by decide +kernel, rfl, by decide +kernel, by decide +kernel⟩
theorem ok__law_judged (Z : Ctx K mg) (Zb : Ctb K mg base) : FnAll P w K mg base (TT K) 8 (He.ga K "_law_judged") ["memory", "comes"] 2 F__law_judged :=
  fnAll (k := 7) Z.f__law_judged sc__law_judged (fun _ _ _ _ _ _ us hl => match us, hl with | [_, _], _ => rfl) fun cdv A outer s H E hr => by
    have hN := sc__law_judged.nd
    exact (dss_cons (ds_for hp_cx rfl (di_enum (da_cons (do_v (de_call px_cx ((ok__law_done Z Zb).fok hr) Z.g__law_done (da_cons (do_pl (pv 0)) (da_cons (do_pl (pv 1)) da_nil)))) da_nil) Z.n_enumerate) (dg_tup rfl (dgs_cons (dg_name hN) (dgs_cons (dg_name hN) dgs_nil)) (takes_cons (takes_cons takes_nil)))
    (dss_cons (ds_set (i := 4) hN (do_v (de_cmp s_in (op_notInA (u65 hr)) (do_v (de_ix (do_pl (pv 1)) (do_pl (pv 2)))) (do_v (de_slice (do_pl (pv 1)) dp_none (dp_some (de_name (pv 2))))))))
    (dss_one (ds_if (dt_cmp s_ne (op_neD hr.units) (do_pl (pv 3)) (do_pl (pv 4))) (dss_one (ds_ret (de_tup (da_cons (do_v (de_name (pv 2))) (da_cons (do_v (de_if (dt_tru (bok_of hr (rows_bool Z Zb)) (do_pl (pv 3))) de_str de_str)) da_nil))))) dss_nil))))
    (dss_one (ds_ret de_non)))
def D__law_cell_at : DSn :=
    (dSeq (dIte (dBl (d2 ltD (oPl 1) (oV (dL lenD (aCons (oPl 0) aNil))))) (dRet (d2 ixD (oPl 0) (oPl 1))) (dEnd .nx))
    (dRet (dC (.int 0))))
def F__law_cell_at : CF := cfOf 2 2 D__law_cell_at
theorem sc__law_cell_at : FnScope ["script", "k"] ["script", "k"] (defScope s__law_cell_at) := ⟨rfl, rfl, rfl, by decide +kernel, rfl, by decide +kernel, by decide +kernel⟩
theorem ok__law_cell_at (Z : Ctx K mg) (Zb : Ctb K mg base) : FnAll P w K mg base (TT K) 2 (He.ga K "_law_cell_at") ["script", "k"] 2 F__law_cell_at :=
  fnAll (k := 1) Z.f__law_cell_at sc__law_cell_at (fun _ _ _ _ _ _ us hl => match us, hl with | [_, _], _ => rfl) fun cdv A outer s H E hr => by
    have hN := sc__law_cell_at.nd
    exact (dss_cons (ds_if (dt_cmp s_lt op_lt (do_pl (pv 1)) (do_v (de_callB snd_len call_len2 (da_cons (do_pl (pv 0)) da_nil) Z.n_len boot_len))) (dss_one (ds_ret (de_ix (do_pl (pv 0)) (do_pl (pv 1))))) dss_nil)
    (dss_one (ds_ret de_int)))
def D__law_draw : DSn :=
    (dSeq (dSet 3 (oV (dTup (aCons (oV (dC (.int 1000003))) (aCons (oV (dC (.int 1000033))) (aCons (oV (dC (.int 1000037))) (aCons (oV (dC (.int 1000039))) (aCons (oV (dC (.int 1000081))) (aCons (oV (dC (.int 1000099))) (aCons (oV (dC (.int 1000117))) (aCons (oV (dC (.int 1000121))) (aCons (oV (dC (.int 1000133))) (aCons (oV (dC (.int 1000151))) (aCons (oV (dC (.int 1000159))) (aCons (oV (dC (.int 1000171))) (aCons (oV (dC (.int 1000183))) (aCons (oV (dC (.int 1000187))) (aCons (oV (dC (.int 1000193))) (aCons (oV (dC (.int 1000199))) aNil)))))))))))))))))))
    (dRet (d2 modD (oV (d2 modD (oV (dL intD (aCons (oV (d2 addD (oV (d2 mulA (oPl 0) (oV (dC (.int 48271))))) (oV (d2 mulA (oPl 1) (oV (dC (.int 69621))))))) aNil))) (oV (d2 ixD (oPl 3) (oV (d2 modD (oV (dL intD (aCons (oPl 1) aNil))) (oV (dC (.int 16))))))))) (oPl 2))))
def F__law_draw : CF := cfOf 4 3 D__law_draw
theorem sc__law_draw : FnScope ["cell", "k", "bound", "primes"] ["cell", "k", "bound"] (defScope s__law_draw) := ⟨rfl, rfl, rfl, by decide +kernel, rfl, by decide +kernel, by decide +kernel⟩
theorem ok__law_draw (Z : Ctx K mg) (Zb : Ctb K mg base) : FnAll P w K mg base (TT K) 2 (He.ga K "_law_draw") ["cell", "k", "bound"] 3 F__law_draw :=
  fnAll (k := 1) Z.f__law_draw sc__law_draw (fun _ _ _ _ _ _ us hl => match us, hl with | [_, _, _], _ => rfl) fun cdv A outer s H E hr => by
    have hN := sc__law_draw.nd
    exact (dss_cons (ds_set (i := 3) hN (do_v (de_tup (da_cons (do_v de_int) (da_cons (do_v de_int) (da_cons (do_v de_int) (da_cons (do_v de_int) (da_cons (do_v de_int) (da_cons (do_v de_int) (da_cons (do_v de_int) (da_cons (do_v de_int) (da_cons (do_v de_int) (da_cons (do_v de_int) (da_cons (do_v de_int) (da_cons (do_v de_int) (da_cons (do_v de_int) (da_cons (do_v de_int) (da_cons (do_v de_int) (da_cons (do_v de_int) da_nil)))))))))))))))))))
    (dss_one (ds_ret (de_mod (do_v (de_mod (do_v (de_callTy snd_int call_int1 (da_cons (do_v (de_add (do_v (de_mul (do_pl (pv 0)) (do_v de_int))) (do_v (de_mul (do_pl (pv 1)) (do_v de_int))))) da_nil) Z.n_int boot_int)) (do_v (de_ix (do_pl (pv 3)) (do_v (de_mod (do_v (de_callTy snd_int call_int1 (da_cons (do_pl (pv 1)) da_nil) Z.n_int boot_int)) (do_v de_int))))))) (do_pl (pv 2))))))
def D__law_number : DSn :=
    (dSeq (dSet 3 (oV (dC (.int 1))))
    (dSeq (dFor (iRes rng1 (aCons (oV (d2 modD (oV (dL intD (aCons (oPl 1) aNil))) (oV (dC (.int 24))))) aNil)) (gNm 4)
    (dSet 3 (oV (d2 mulA (oPl 3) (oV (dC (.int 1009)))))))
    (dSeq (dSet 5 (oV (d2 fdivD (oV (d2 (i0D fun i j => .int (i - j)) (oPl 0) (oV (d2 powD (oV (dC (.int 10))) (oV (dC (.int 18))))))) (oPl 3))))
    (dSeq (dIte (dBl (d2 gtD (oPl 5) (oV (dC (.int 0))))) (dRet (d2 modD (oV (d2 modD (oV (dL intD (aCons (oPl 5) aNil))) (oV (dC (.int 1009))))) (oPl 2))) (dEnd .nx))
    (dSeq (dSet 6 (oV (d2 modD (oV (dL intD (aCons (oPl 0) aNil))) (oV (dC (.int 1000003))))))
    (dRet (d2 modD (oV (dCall F__law_draw (aCons (oV (d2 mulA (oV (d2 addD (oPl 6) (oV (d2 mulA (oV (dC (.int 977))) (oPl 1))))) (oV (d2 addD (oV (d2 addD (oPl 6) (oV (d2 mulA (oV (dC (.int 31))) (oPl 1))))) (oV (dC (.int 5))))))) (aCons (oV (d2 addD (oV (d2 modD (oV (dL intD (aCons (oPl 1) aNil))) (oV (dC (.int 9))))) (oV (dC (.int 1))))) (aCons (oV (dC (.int 999983))) aNil))))) (oPl 2))))))))
def F__law_number : CF := cfOf 7 3 D__law_number
theorem sc__law_number : FnScope ["cell", "k", "bound", "scale", "lap", "remains", "small"] ["cell", "k", "bound"] (defScope s__law_number) := ⟨rfl, rfl, rfl, by decide +kernel, rfl, by decide +kernel, by decide +kernel⟩
theorem ok__law_number (Z : Ctx K mg) (Zb : Ctb K mg base) : FnAll P w K mg base (TT K) 5 (He.ga K "_law_number") ["cell", "k", "bound"] 3 F__law_number :=
  fnAll (k := 4) Z.f__law_number sc__law_number (fun _ _ _ _ _ _ us hl => match us, hl with | [_, _, _], _ => rfl) fun cdv A outer s H E hr => by
    have hN := sc__law_number.nd
    exact (dss_cons (ds_set (i := 3) hN (do_v de_int))
    (dss_cons (ds_for hp_cx rfl (di_range1 (da_cons (do_v (de_mod (do_v (de_callTy snd_int call_int1 (da_cons (do_pl (pv 1)) da_nil) Z.n_int boot_int)) (do_v de_int))) da_nil) Z.n_range) (dg_name hN)
    (dss_one (ds_set (i := 3) hN (do_v (de_mul (do_pl (pv 3)) (do_v de_int))))))
    (dss_cons (ds_set (i := 5) hN (do_v (de_fdiv (do_v (de_sub (do_pl (pv 0)) (do_v (de_pow (do_v de_int) (do_v de_int))))) (do_pl (pv 3)))))
    (dss_cons (ds_if (dt_cmp s_gt op_gt (do_pl (pv 5)) (do_v de_int)) (dss_one (ds_ret (de_mod (do_v (de_mod (do_v (de_callTy snd_int call_int1 (da_cons (do_pl (pv 5)) da_nil) Z.n_int boot_int)) (do_v de_int))) (do_pl (pv 2))))) dss_nil)
    (dss_cons (ds_set (i := 6) hN (do_v (de_mod (do_v (de_callTy snd_int call_int1 (da_cons (do_pl (pv 0)) da_nil) Z.n_int boot_int)) (do_v de_int))))
    (dss_one (ds_ret (de_mod (do_v (de_call px_cx ((ok__law_draw Z Zb).fok hr) Z.g__law_draw (da_cons (do_v (de_mul (do_v (de_add (do_pl (pv 6)) (do_v (de_mul (do_v de_int) (do_pl (pv 1)))))) (do_v (de_add (do_v (de_add (do_pl (pv 6)) (do_v (de_mul (do_v de_int) (do_pl (pv 1)))))) (do_v de_int))))) (da_cons (do_v (de_add (do_v (de_mod (do_v (de_callTy snd_int call_int1 (da_cons (do_pl (pv 1)) da_nil) Z.n_int boot_int)) (do_v de_int))) (do_v de_int))) (da_cons (do_v de_int) da_nil))))) (do_pl (pv 2))))))))))
def D__law_next : DSn :=
    (dSeq (dSetIx 0 (dC (.int 2)) (d2 addD (oV (d2 ixD (oPl 0) (oV (dC (.int 2))))) (oV (dC (.int 1)))))
    (dSeq (dSet 2 (oV (d2 fdivD (oV (d2 ixD (oPl 0) (oV (dC (.int 2))))) (oV (dC (.int 12))))))
    (dSeq (dSet 3 (oV (d2 addD (oV (dCall F__law_cell_at (aCons (oV (d2 ixD (oPl 0) (oV (dC (.int 0))))) (aCons (oV (d2 addD (oV (d2 ixD (oPl 0) (oV (dC (.int 1))))) (oPl 2))) aNil)))) (oV (d2 mulA (oV (dC (.int 31))) (oPl 2))))))
    (dRet (dCall F__law_number (aCons (oPl 3) (aCons (oV (d2 addD (oV (d2 modD (oV (dL intD (aCons (oV (d2 ixD (oPl 0) (oV (dC (.int 2))))) aNil))) (oV (dC (.int 12))))) (oV (dC (.int 1))))) (aCons (oPl 1) aNil))))))))
def F__law_next : CF := cfOf 4 2 D__law_next
theorem sc__law_next : FnScope ["draw", "bound", "at", "cell"] ["draw", "bound"] (defScope s__law_next) := ⟨rfl, rfl, rfl, by decide +kernel, rfl, by decide +kernel, by decide +kernel⟩
theorem ok__law_next (Z : Ctx K mg) (Zb : Ctb K mg base) : FnAll P w K mg base (TT K) 8 (He.ga K "_law_next") ["draw", "bound"] 2 F__law_next :=
  fnAll (k := 7) Z.f__law_next sc__law_next (fun _ _ _ _ _ _ us hl => match us, hl with | [_, _], _ => rfl) fun cdv A outer s H E hr => by
    have hN := sc__law_next.nd
    exact (dss_cons (ds_setIx (pv 0) de_int (de_add (do_v (de_ix (do_pl (pv 0)) (do_v de_int))) (do_v de_int)))
    (dss_cons (ds_set (i := 2) hN (do_v (de_fdiv (do_v (de_ix (do_pl (pv 0)) (do_v de_int))) (do_v de_int))))
    (dss_cons (ds_set (i := 3) hN (do_v (de_add (do_v (de_call px_cx ((ok__law_cell_at Z Zb).fok hr) Z.g__law_cell_at (da_cons (do_v (de_ix (do_pl (pv 0)) (do_v de_int))) (da_cons (do_v (de_add (do_v (de_ix (do_pl (pv 0)) (do_v de_int))) (do_pl (pv 2)))) da_nil)))) (do_v (de_mul (do_v de_int) (do_pl (pv 2)))))))
    (dss_one (ds_ret (de_call px_cx ((ok__law_number Z Zb).fok hr) Z.g__law_number (da_cons (do_pl (pv 3)) (da_cons (do_v (de_add (do_v (de_mod (do_v (de_callTy snd_int call_int1 (da_cons (do_v (de_ix (do_pl (pv 0)) (do_v de_int))) da_nil) Z.n_int boot_int)) (do_v de_int))) (do_v de_int))) (da_cons (do_pl (pv 1)) da_nil)))))))))
def D__law_pick : DSn :=
    (dRet (d2 ixD (oPl 1) (oV (dCall F__law_next (aCons (oPl 0) (aCons (oV (dL lenD (aCons (oPl 1) aNil))) aNil))))))
def F__law_pick : CF := cfOf 2 2 D__law_pick
theorem sc__law_pick : FnScope ["draw", "things"] ["draw", "things"] (defScope s__law_pick) := ⟨rfl, rfl, rfl, by decide +kernel, rfl, by decide +kernel, by decide +kernel⟩
theorem ok__law_pick (Z : Ctx K mg) (Zb : Ctb K mg base) : FnAll P w K mg base (TT K) 11 (He.ga K "_law_pick") ["draw", "things"] 2 F__law_pick :=
  fnAll (k := 10) Z.f__law_pick sc__law_pick (fun _ _ _ _ _ _ us hl => match us, hl with | [_, _], _ => rfl) fun cdv A outer s H E hr => by
    have hN := sc__law_pick.nd
    exact (dss_one (ds_ret (de_ix (do_pl (pv 1)) (do_v (de_call px_cx ((ok__law_next Z Zb).fok hr) Z.g__law_next (da_cons (do_pl (pv 0)) (da_cons (do_v (de_callB snd_len call_len2 (da_cons (do_pl (pv 1)) da_nil) Z.n_len boot_len)) da_nil)))))))
def M_shows : Nat → Option CF
  | 0 => some F_Just_shows
  | 1 => some F_Misdone_shows
  | _ => none
theorem rows_shows {X : Cx} {k' : Nat} (Z : Ctx X.K X.mg) (Zb : Ctb X.K X.mg X.base) (hk : 20 ≤ k' := by decide) : ∀ c F, M_shows c = some F → MRow X (TT X.K) "shows" 3 k' c F := fun c F e => by
  unfold M_shows at e
  split at e
  · cases e; exact (ok_Just_shows Z Zb).mrow (c := 0) Z.k_Just Z.m_Just_shows (by show _ ∉ layC 0; decide +kernel) (Nat.le_trans (by decide) hk)
  · cases e; exact (ok_Misdone_shows Z Zb).mrow (c := 1) Z.k_Misdone Z.m_Misdone_shows (by show _ ∉ layC 1; decide +kernel) (Nat.le_trans (by decide) hk)
  · cases e
theorem some_shows : ∃ c F, M_shows c = some F := ⟨0, _, rfl⟩
def S_law_0 : DSn := (dSet 1 (oLst (aCons (oV (dSl (oPl 0) pNo (pSome (dC (.int 63))))) (aCons (oV (dC (.int 0))) (aCons (oV (dC (.int 0))) aNil)))))
def S_law_1 : DSn := (dSet 3 (oV (dCall F__law_pick (aCons (oPl 1) (aCons (oV (dLst (aCons (oV (dTup (aCons (oV (dC (.str "all"))) aNil))) (aCons (oV (dTup (aCons (oV (dC (.str "last"))) aNil))) (aCons (oV (dTup (aCons (oV (dC (.str "window"))) (aCons (oV (dCall F__law_next (aCons (oPl 1) (aCons (oV (dC (.int 13))) aNil)))) aNil)))) (aCons (oV (dTup (aCons (oV (dC (.str "window"))) (aCons (oV (dCall F__law_next (aCons (oPl 1) (aCons (oV (dC (.int 4))) aNil)))) aNil)))) aNil)))))) aNil)))))
def S_law_2 : DSn := (dSet 5 (oV (dL tupleD (aCons (oLc (iRes rng1 (aCons (oV (dCall F__law_next (aCons (oPl 1) (aCons (oV (dC (.int 12))) aNil)))) aNil)) [4] (gNm 4) tTrue (dTup (aCons (oV (dCall F__law_next (aCons (oPl 1) (aCons (oV (dC (.int 3))) aNil)))) (aCons (oV (dCall F__law_next (aCons (oPl 1) (aCons (oV (dC (.int 3))) aNil)))) aNil)))) aNil))))
def S_law_3 : DSn := (dPar [6, 7] (aCons (oV (dCall F__law_judged (aCons (oPl 3) (aCons (oPl 5) aNil)))) (aCons (oV (dCall F_judge_comes (aCons (oPl 3) (aCons (oPl 5) aNil)))) aNil)))
def S_law_4 : DSn := (dIte (tOrD (tNotD (dTru M_bool (oV (dCall F_is_memory (aCons (oPl 3) aNil))))) (tOrD (dBl (d2 neD (oV (dCall F_done_by (aCons (oPl 3) (aCons (oPl 5) aNil)))) (oV (dCall F__law_done (aCons (oPl 3) (aCons (oPl 5) aNil)))))) (tOrD (dBl (d2 neD (oV (dBoolC M_bool (oPl 7))) (oV (d2 isND (oPl 6) (oV (dC .non)))))) (tOrD (dBl (dEqM true M_eq Pr_eq (oPl 7) (oV (dIf (dBl (d2 isND (oPl 6) (oV (dC .non)))) (dFz (oMake0 0)) (dFz (oMake 1 F_Misdonedd_initdd (aCons (oV (d2 ixD (oPl 6) (oV (dC (.int 0))))) (aCons (oV (d2 ixD (oPl 6) (oV (dC (.int 1))))) aNil)))))))) (tNotD (dTru M_bool (oV (dMeth M_shows (oPl 7) (aCons (oPl 3) (aCons (oPl 5) aNil)))))))))) (dRet (dC (.bl false))) (dEnd .nx))
def S_law_5 : DSn := (dIte (tOrD (dBl (d2 neD (oV (dMeth M_shows (oV (dFz (oMake0 0))) (aCons (oPl 3) (aCons (oPl 5) aNil)))) (oV (d2 isND (oPl 6) (oV (dC .non)))))) (tOrD (tAndD (dBl (d2 notND (oPl 6) (oV (dC .non)))) (tOrD (dTru M_bool (oV (dMeth M_shows (oV (dFz (oMake 1 F_Misdonedd_initdd (aCons (oV (d2 addD (oV (d2 ixD (oPl 6) (oV (dC (.int 0))))) (oV (dC (.int 1))))) (aCons (oV (d2 ixD (oPl 6) (oV (dC (.int 1))))) aNil))))) (aCons (oPl 3) (aCons (oPl 5) aNil))))) (dTru M_bool (oV (dMeth M_shows (oV (dFz (oMake 1 F_Misdonedd_initdd (aCons (oV (d2 ixD (oPl 6) (oV (dC (.int 0))))) (aCons (oV (dIf (dBl (d2 eqD (oV (d2 ixD (oPl 6) (oV (dC (.int 1))))) (oV (dC (.str "dropped"))))) (dC (.str "twice")) (dC (.str "dropped")))) aNil))))) (aCons (oPl 3) (aCons (oPl 5) aNil))))))) (tAndD (dBl (d2 isND (oPl 6) (oV (dC .non)))) (dTru M_bool (oV (dMeth M_shows (oV (dFz (oMake 1 F_Misdonedd_initdd (aCons (oV (dC (.int 0))) (aCons (oV (dC (.str "twice"))) aNil))))) (aCons (oPl 3) (aCons (oPl 5) aNil)))))))) (dRet (dC (.bl false))) (dEnd .nx))
def S_law_6 : DSn := (dIte (dBl (d2 neD (oV (dCall F_doubles_in (aCons (oPl 5) aNil))) (oV (dL tupleD (aCons (oLc (iVals enum1 (aCons (oV (dName 5)) aNil)) [8, 9] (gTp (gsCons (gNm 8) (gsCons (gNm 9) gsNil))) (dBl (d2 (inD false) (oPl 9) (oV (dSl (oPl 5) pNo (pSome (dName 8)))))) (dName 8)) aNil))))) (dRet (dC (.bl false))) (dEnd .nx))
def S_law_7 : DSn := (dSet 10 (oV (dL tupleD (aCons (oLc (iRes rng1 (aCons (oV (d2 addD (oV (dC (.int 1))) (oV (dCall F__law_next (aCons (oPl 1) (aCons (oV (dC (.int 4))) aNil)))))) aNil)) [4] (gNm 4) tTrue (dCall F__law_next (aCons (oPl 1) (aCons (oV (dC (.int 4))) aNil)))) aNil))))
def S_law_8 : DSn := (dPar [11, 12] (aCons (oV (d2 addD (oV (dC (.int 1))) (oV (dCall F__law_next (aCons (oPl 1) (aCons (oV (dC (.int 3))) aNil)))))) (aCons (oV (dCall F__law_next (aCons (oPl 1) (aCons (oV (dC (.int 5))) aNil)))) aNil)))
def S_law_9 : DSn := (dIte (dBl (d2 neD (oV (dCall F_are_coming (aCons (oPl 10) (aCons (oPl 11) (aCons (oPl 12) (aCons (oPl 5) aNil)))))) (oV (dCall F__law_can (aCons (oPl 10) (aCons (oPl 11) (aCons (oPl 12) (aCons (oPl 5) aNil)))))))) (dRet (dC (.bl false))) (dEnd .nx))
def S_law_10 : DSn := (dSet 13 (oV (dTup aNil)))
def S_law_11 : DSn := (dFor (iRes rng1 (aCons (oV (dC (.int 8))) aNil)) (gNm 4)
    (dSeq (dSet 16 (oV (dLV sumLD (aCons (oV (dFz (oLc (iRes rng1 (aCons (oV (dL lenD (aCons (oPl 10) aNil))) aNil)) [15] (gNm 15) tTrue (dFz (oLc (iRes rng1 (aCons (oV (d2 ixD (oPl 10) (oPl 15))) aNil)) [14] (gNm 14) (dTru M_bool (oV (dCall F__law_can (aCons (oPl 10) (aCons (oPl 11) (aCons (oPl 12) (aCons (oV (d2 addD (oPl 13) (oV (dTup (aCons (oV (dTup (aCons (oV (dName 15)) (aCons (oV (dName 14)) aNil)))) aNil))))) aNil))))))) (dTup (aCons (oV (dName 15)) (aCons (oV (dName 14)) aNil)))))))) (aCons (oV (dLst aNil)) aNil)))))
    (dSet 13 (oV (d2 addD (oPl 13) (oV (dIf (dBl (d2 neD (oPl 16) (oLst aNil))) (dTup (aCons (oV (dCall F__law_pick (aCons (oPl 1) (aCons (oPl 16) aNil)))) aNil)) (dTup aNil))))))))
def S_law_12 : DSn := (dIte (tOrD (tNotD (dTru M_bool (oV (dCall F_are_coming (aCons (oPl 10) (aCons (oPl 11) (aCons (oPl 12) (aCons (oPl 13) aNil)))))))) (tOrD (tNotD (dTru M_bool (oV (dCall F_judge_comes (aCons (oV (dTup (aCons (oV (dC (.str "all"))) aNil))) (aCons (oPl 13) aNil)))))) (tNotD (dTru M_bool (oV (dCall F_judge_comes (aCons (oV (dTup (aCons (oV (dC (.str "last"))) aNil))) (aCons (oPl 13) aNil)))))))) (dRet (dC (.bl false))) (dEnd .nx))
def S_law_13 : DSn := (dSet 18 (oV (dDict [.inr "all", .inr "last"] (aCons (oV (dL sum2D (aCons (oPl 10) aNil))) (aCons (oV (dL lenD (aCons (oLc (iSeq (dName 10)) [17] (gNm 17) (dBl (d2 gtD (oPl 17) (oV (dC (.int 0))))) (dName 17)) aNil))) aNil)))))
def S_law_14 : DSn := (dFor (iSeq (dTup (aCons (oV (dTup (aCons (oV (dC (.str "all"))) aNil))) (aCons (oV (dTup (aCons (oV (dC (.str "last"))) aNil))) (aCons (oV (dTup (aCons (oV (dC (.str "window"))) (aCons (oV (dC (.int 0))) aNil)))) (aCons (oV (dTup (aCons (oV (dC (.str "window"))) (aCons (oV (dC (.int 3))) aNil)))) (aCons (oV (dTup (aCons (oV (dC (.str "window"))) (aCons (oV (dC (.int 12))) aNil)))) aNil))))))) (gNm 3)
    (dIte (dBl (d2 neD (oV (dCall F_rows_kept (aCons (oPl 3) (aCons (oPl 10) aNil)))) (oV (dIf (dBl (d2 eqD (oV (d2 ixD (oPl 3) (oV (dC (.int 0))))) (oV (dC (.str "window"))))) (dL minD (aCons (oLst (aCons (oV (d2 ixD (oPl 3) (oV (dC (.int 1))))) (aCons (oV (dL sum2D (aCons (oPl 10) aNil))) aNil))) aNil)) (d2 ixD2 (oPl 18) (oV (d2 ixD (oPl 3) (oV (dC (.int 0)))))))))) (dRet (dC (.bl false))) (dEnd .nx)))
def S_law_15 : DSn := (dFor (iRes rng1 (aCons (oV (dC (.int 5))) aNil)) (gNm 2)
    (dSeq S_law_1
    (dSeq S_law_2
    (dSeq S_law_3
    (dSeq S_law_4
    (dSeq S_law_5
    (dSeq S_law_6
    (dSeq S_law_7
    (dSeq S_law_8
    (dSeq S_law_9
    (dSeq S_law_10
    (dSeq S_law_11
    (dSeq S_law_12
    (dSeq S_law_13
    S_law_14))))))))))))))
def S_law_16 : DSn := (dIte (dTru M_bool (oV (dCall F_is_memory (aCons (oPl 19) aNil)))) (dRet (dC (.bl false))) (dEnd .nx))
def S_law_17 : DSn := (dIte (tNotD (dTru M_bool (oV (dRefuse 0 (aCons (oV (dC (.str "memory"))) (aCons (oV (dC .non)) aNil)) (dCall F_done_by (aCons (oPl 19) (aCons (oV (dTup aNil)) aNil))))))) (dRet (dC (.bl false))) (dEnd .nx))
def S_law_18 : DSn := (dIte (tNotD (dTru M_bool (oV (dRefuse 0 (aCons (oV (dC (.str "memory"))) (aCons (oV (dC .non)) aNil)) (dCall F_judge_comes (aCons (oPl 19) (aCons (oV (dTup aNil)) aNil))))))) (dRet (dC (.bl false))) (dEnd .nx))
def S_law_19 : DSn := (dIte (tNotD (dTru M_bool (oV (dRefuse 0 (aCons (oV (dC (.str "memory"))) (aCons (oV (dC .non)) aNil)) (dCall F_rows_kept (aCons (oPl 19) (aCons (oV (dTup (aCons (oV (dC (.int 1))) aNil))) aNil))))))) (dRet (dC (.bl false))) (dEnd .nx))
def S_law_20 : DSn := (dFor (iSeq (dTup (aCons (oV (dC .non)) (aCons (oV (dTup aNil)) (aCons (oV (dTup (aCons (oV (dC (.str "all"))) (aCons (oV (dC (.int 1))) aNil)))) (aCons (oV (dTup (aCons (oV (dC (.str "last"))) (aCons (oV (dC (.int 2))) aNil)))) (aCons (oV (dTup (aCons (oV (dC (.str "window"))) aNil))) (aCons (oV (dTup (aCons (oV (dC (.str "window"))) (aCons (oV (dC (.int 13))) aNil)))) (aCons (oV (dTup (aCons (oV (dC (.str "window"))) (aCons (oV (dNeg (oV (dC (.int 1))))) aNil)))) (aCons (oV (dTup (aCons (oV (dC (.str "window"))) (aCons (oV (dC (.bl true))) aNil)))) (aCons (oV (dC (.str "all"))) (aCons (oV (dLst (aCons (oV (dC (.str "all"))) aNil))) (aCons (oV (dTup (aCons (oV (dC (.str "some"))) aNil))) (aCons (oV (dTup (aCons (oV (dC (.int 1))) aNil))) aNil)))))))))))))) (gNm 19)
    (dSeq S_law_16
    (dSeq S_law_17
    (dSeq S_law_18
    S_law_19))))
def S_law_21 : DSn := (dIte (tNotD (dTru M_bool (oV (dRefuse 0 (aCons (oV (dC (.str "comes"))) (aCons (oV (dName 8)) aNil)) (dCall F_done_by (aCons (oV (dTup (aCons (oV (dC (.str "all"))) aNil))) (aCons (oPl 19) aNil))))))) (dRet (dC (.bl false))) (dEnd .nx))
def S_law_22 : DSn := (dIte (tNotD (dTru M_bool (oV (dRefuse 0 (aCons (oV (dC (.str "comes"))) (aCons (oV (dName 8)) aNil)) (dCall F_doubles_in (aCons (oPl 19) aNil)))))) (dRet (dC (.bl false))) (dEnd .nx))
def S_law_23 : DSn := (dIte (tNotD (dTru M_bool (oV (dRefuse 0 (aCons (oV (dC (.str "comes"))) (aCons (oV (dName 8)) aNil)) (dCall F_are_coming (aCons (oV (dTup (aCons (oV (dC (.int 1))) aNil))) (aCons (oV (dC (.int 1))) (aCons (oV (dC (.int 0))) (aCons (oPl 19) aNil))))))))) (dRet (dC (.bl false))) (dEnd .nx))
def S_law_24 : DSn := (dFor (iSeq (dTup (aCons (oV (dTup (aCons (oV (dC .non)) (aCons (oV (dC .non)) aNil)))) (aCons (oV (dTup (aCons (oV (d2 mulA (oV (dTup (aCons (oV (dTup (aCons (oV (dC (.int 0))) (aCons (oV (dC (.int 0))) aNil)))) aNil))) (oV (dC (.int 25))))) (aCons (oV (dC .non)) aNil)))) (aCons (oV (dTup (aCons (oV (dTup (aCons (oV (dTup (aCons (oV (dC (.int 4))) (aCons (oV (dC (.int 0))) aNil)))) aNil))) (aCons (oV (dC (.int 0))) aNil)))) (aCons (oV (dTup (aCons (oV (dTup (aCons (oV (dTup (aCons (oV (dC (.int 0))) (aCons (oV (dC (.int 0))) aNil)))) (aCons (oV (dTup (aCons (oV (dC (.int 0))) (aCons (oV (dC (.int 10))) aNil)))) aNil)))) (aCons (oV (dC (.int 1))) aNil)))) (aCons (oV (dTup (aCons (oV (dTup (aCons (oV (dTup (aCons (oV (dC (.int 0))) (aCons (oV (dC (.bl true))) aNil)))) aNil))) (aCons (oV (dC (.int 0))) aNil)))) (aCons (oV (dTup (aCons (oV (dTup (aCons (oV (dC .non)) aNil))) (aCons (oV (dC (.int 0))) aNil)))) (aCons (oV (dTup (aCons (oV (dTup (aCons (oV (dLst (aCons (oV (dC (.int 0))) (aCons (oV (dC (.int 0))) aNil)))) aNil))) (aCons (oV (dC (.int 0))) aNil)))) (aCons (oV (dTup (aCons (oV (dTup (aCons (oV (dTup (aCons (oV (dC (.int 0))) (aCons (oV (dC (.int 0))) (aCons (oV (dC (.int 0))) aNil))))) aNil))) (aCons (oV (dC (.int 0))) aNil)))) aNil)))))))))) (gTp (gsCons (gNm 19) (gsCons (gNm 8) gsNil)))
    (dSeq S_law_21
    (dSeq S_law_22
    S_law_23)))
def S_law_25 : DSn := (dIte (tNotD (dTru M_bool (oV (dRefuse 0 (aCons (oV (dC (.str "lengths"))) (aCons (oV (dName 8)) aNil)) (dCall F_are_coming (aCons (oPl 19) (aCons (oV (dC (.int 1))) (aCons (oV (dC (.int 0))) (aCons (oV (dTup aNil)) aNil))))))))) (dRet (dC (.bl false))) (dEnd .nx))
def S_law_26 : DSn := (dIte (tNotD (dTru M_bool (oV (dRefuse 0 (aCons (oV (dC (.str "lengths"))) (aCons (oV (dName 8)) aNil)) (dCall F_rows_kept (aCons (oV (dTup (aCons (oV (dC (.str "all"))) aNil))) (aCons (oPl 19) aNil))))))) (dRet (dC (.bl false))) (dEnd .nx))
def S_law_27 : DSn := (dFor (iSeq (dTup (aCons (oV (dTup (aCons (oV (dC .non)) (aCons (oV (dC .non)) aNil)))) (aCons (oV (dTup (aCons (oV (dTup aNil)) (aCons (oV (dC .non)) aNil)))) (aCons (oV (dTup (aCons (oV (d2 mulA (oV (dTup (aCons (oV (dC (.int 1))) aNil))) (oV (dC (.int 5))))) (aCons (oV (dC .non)) aNil)))) (aCons (oV (dTup (aCons (oV (dTup (aCons (oV (dC (.int 1))) (aCons (oV (dC (.int 4))) aNil)))) (aCons (oV (dC (.int 1))) aNil)))) (aCons (oV (dTup (aCons (oV (dTup (aCons (oV (dNeg (oV (dC (.int 1))))) aNil))) (aCons (oV (dC (.int 0))) aNil)))) (aCons (oV (dTup (aCons (oV (dTup (aCons (oV (dC (.bl true))) aNil))) (aCons (oV (dC (.int 0))) aNil)))) aNil)))))))) (gTp (gsCons (gNm 19) (gsCons (gNm 8) gsNil)))
    (dSeq S_law_25
    S_law_26))
def S_law_28 : DSn := (dIte (tNotD (dTru M_bool (oV (dRefuse 0 (aCons (oV (dC (.str "times"))) (aCons (oV (dC .non)) aNil)) (dCall F_are_coming (aCons (oV (dTup (aCons (oV (dC (.int 1))) aNil))) (aCons (oPl 19) (aCons (oV (dC (.int 0))) (aCons (oV (dTup aNil)) aNil))))))))) (dRet (dC (.bl false))) (dEnd .nx))
def S_law_29 : DSn := (dFor (iSeq (dTup (aCons (oV (dC (.int 0))) (aCons (oV (dC (.int 4))) (aCons (oV (dC .non)) (aCons (oV (dC (.bl true))) aNil)))))) (gNm 19)
    S_law_28)
def S_law_30 : DSn := (dRet (dC (.bl false)))
def S_law_31 : DSn := (dIte (tNotD (dTru M_bool (oV (dRefuse 0 (aCons (oV (dC (.str "gap"))) (aCons (oV (dC .non)) aNil)) (dCall F_are_coming (aCons (oV (dTup (aCons (oV (dC (.int 1))) aNil))) (aCons (oV (dC (.int 1))) (aCons (oV (dC (.int 13))) (aCons (oV (dTup aNil)) aNil))))))))) S_law_30 (dEnd .nx))
def S_law_32 : DSn := (dRet (dC (.bl false)))
def S_law_33 : DSn := (dIte (tNotD (dTru M_bool (oV (dRefuse 0 (aCons (oV (dC (.str "gap"))) (aCons (oV (dC .non)) aNil)) (dCall F_are_coming (aCons (oV (dTup (aCons (oV (dC (.int 1))) aNil))) (aCons (oV (dC (.int 1))) (aCons (oV (dNeg (oV (dC (.int 1))))) (aCons (oV (dTup aNil)) aNil))))))))) S_law_32 (dEnd .nx))
def S_law_34 : DSn := (dRet (dAnd (dEqM false M_eq Pr_eq (oV (dCall F_judge_comes (aCons (oV (dTup (aCons (oV (dC (.str "window"))) (aCons (oV (dC (.int 0))) aNil)))) (aCons (oV (dTup (aCons (oV (dTup (aCons (oV (dC (.int 0))) (aCons (oV (dC (.int 0))) aNil)))) aNil))) aNil)))) (oV (dFz (oMake0 0)))) (d2 eqD (oV (dCall F_done_by (aCons (oV (dTup (aCons (oV (dC (.str "all"))) aNil))) (aCons (oV (d2 mulA (oV (dTup (aCons (oV (dTup (aCons (oV (dC (.int 0))) (aCons (oV (dC (.int 0))) aNil)))) aNil))) (oV (dC (.int 24))))) aNil)))) (oV (d2 addD (oV (dTup (aCons (oV (dC (.bl true))) aNil))) (oV (d2 mulA (oV (dTup (aCons (oV (dC (.bl false))) aNil))) (oV (dC (.int 23))))))))))
def D_law : DSn :=
    (dSeq S_law_0
    (dSeq S_law_15
    (dSeq S_law_20
    (dSeq S_law_24
    (dSeq S_law_27
    (dSeq S_law_29
    (dSeq S_law_31
    (dSeq S_law_33
    S_law_34))))))))
def F_law : CF := cfOf 20 1 D_law
theorem sc_law : FnScope ["script", "draw", "turn", "memory", "step", "comes", "due", "told", "place", "tag", "lengths", "times", "gap", "rows", "number", "client", "fine", "many", "kept", "bad"] ["script"] (defScope s_law) := ⟨rfl, rfl, rfl, by decide +kernel, rfl, by decide +kernel, by decide +kernel⟩
theorem bd_law (Z : Ctx K mg) (Zb : Ctb K mg base) (A : Around) (outer : List PySem.Env) (s : Shared) (H : Hp) (E : XK) (hr : Room 22 (A.deeper (envOfC "law" (defScope s_law) s.heap.objs.size (He.ga K "law") (.ref (He.codeOf K ("law", none)))))) :
    DSs (cxOf (L2.CX P w) P w K mg base ["script", "draw", "turn", "memory", "step", "comes", "due", "told", "place", "tag", "lengths", "times", "gap", "rows", "number", "client", "fine", "many", "kept", "bad"] "law" (defScope s_law) (He.ga K "law") (.ref (He.codeOf K ("law", none))) A outer s H E) (TT K) (WB E) (defBody s_law) D_law := by
    have hN := sc_law.nd
    exact (dss_cons (ds_set (i := 1) hN (do_lst (da_cons (do_v (de_slice (do_pl (pv 0)) dp_none (dp_some de_int))) (da_cons (do_v de_int) (da_cons (do_v de_int) da_nil)))))
    (dss_cons (ds_for hp_cx rfl (di_range1 (da_cons (do_v de_int) da_nil) Z.n_range) (dg_name hN)
    (dss_cons (ds_set (i := 3) hN (do_v (de_call px_cx ((ok__law_pick Z Zb).fok hr) Z.g__law_pick (da_cons (do_pl (pv 1)) (da_cons (do_v (de_lst (da_cons (do_v (de_tup (da_cons (do_v de_str) da_nil))) (da_cons (do_v (de_tup (da_cons (do_v de_str) da_nil))) (da_cons (do_v (de_tup (da_cons (do_v de_str) (da_cons (do_v (de_call px_cx ((ok__law_next Z Zb).fok hr) Z.g__law_next (da_cons (do_pl (pv 1)) (da_cons (do_v de_int) da_nil)))) da_nil)))) (da_cons (do_v (de_tup (da_cons (do_v de_str) (da_cons (do_v (de_call px_cx ((ok__law_next Z Zb).fok hr) Z.g__law_next (da_cons (do_pl (pv 1)) (da_cons (do_v de_int) da_nil)))) da_nil)))) da_nil)))))) da_nil)))))
    (dss_cons (ds_set (i := 5) hN (do_v (de_callTy snd_tuple call_tupleP (da_cons (do_lc (own := [("step", 4)]) rfl hN (by kernel_rfl) (by decide) (di_range1 (da_cons (do_v (de_call px_cx ((ok__law_next Z Zb).fok hr) Z.g__law_next (da_cons (do_pl (pv 1)) (da_cons (do_v de_int) da_nil)))) da_nil) Z.n_range) (fun _ _ _ _ _ => (dg_name hN)) (fun _ _ _ _ _ => dts_nil) (fun _ _ _ _ _ => (de_tup (da_cons (do_v (de_call psx0 ((ok__law_next Z Zb).fok hr) Z.g__law_next (da_cons (do_pl (pv 1)) (da_cons (do_v de_int) da_nil)))) (da_cons (do_v (de_call psx0 ((ok__law_next Z Zb).fok hr) Z.g__law_next (da_cons (do_pl (pv 1)) (da_cons (do_v de_int) da_nil)))) da_nil))))) da_nil) Z.n_tuple boot_tuple)))
    (dss_cons (ds_par2 (i := 6) (j := 7) rfl hN (da_cons (do_v (de_call px_cx ((ok__law_judged Z Zb).fok hr) Z.g__law_judged (da_cons (do_pl (pv 3)) (da_cons (do_pl (pv 5)) da_nil)))) (da_cons (do_v (de_call px_cx ((ok_judge_comes Z Zb).fok hr) Z.g_judge_comes (da_cons (do_pl (pv 3)) (da_cons (do_pl (pv 5)) da_nil)))) da_nil)))
    (dss_cons (ds_if (dt_w (dw_or (dt_not (dt_tru (bok_of hr (rows_bool Z Zb)) (do_v (de_call px_cx ((ok_is_memory Z Zb).fok hr) Z.g_is_memory (da_cons (do_pl (pv 3)) da_nil))))) (dw_or (dt_cmp s_ne (op_neD hr.units) (do_v (de_call px_cx ((ok_done_by Z Zb).fok hr) Z.g_done_by (da_cons (do_pl (pv 3)) (da_cons (do_pl (pv 5)) da_nil)))) (do_v (de_call px_cx ((ok__law_done Z Zb).fok hr) Z.g__law_done (da_cons (do_pl (pv 3)) (da_cons (do_pl (pv 5)) da_nil))))) (dw_or (dt_cmp s_ne (op_neD hr.units) (do_v (de_bool (bok_of (room_in hr) (rows_bool Z Zb)) (do_pl (pv 7)) Z.n_bool)) (do_v (de_cmp s_isN op_isN (do_pl (pv 6)) (do_v de_non)))) (dw_or (dt_neM (qok Z Zb hr) hr.units (do_pl (pv 7)) (do_v (de_if (dt_cmp s_isN op_isN (do_pl (pv 6)) (do_v de_non)) (de_o (do_make0 (c := 0) Z.mk_Just Z.g_Just)) (de_o (do_make px_cx ((ok_Misdonedd_initdd Z Zb).kok Z.mk_Misdone hr) Z.g_Misdone (da_cons (do_v (de_ix (do_pl (pv 6)) (do_v de_int))) (da_cons (do_v (de_ix (do_pl (pv 6)) (do_v de_int))) da_nil))))))) (dw_or1 (dt_not (dt_tru (bok_of hr (rows_bool Z Zb)) (do_v (de_meth px_cx (mok_of hr (rows_shows Z Zb) some_shows) (do_pl (pv 7)) (da_cons (do_pl (pv 3)) (da_cons (do_pl (pv 5)) da_nil)))))))))))) (dss_one (ds_ret de_bl)) dss_nil)
    (dss_cons (ds_if (dt_w (dw_or (dt_cmp s_ne (op_neD hr.units) (do_v (de_meth px_cx (mok_of hr (rows_shows Z Zb) some_shows) (do_v (de_o (do_make0 (c := 0) Z.mk_Just Z.g_Just))) (da_cons (do_pl (pv 3)) (da_cons (do_pl (pv 5)) da_nil)))) (do_v (de_cmp s_isN op_isN (do_pl (pv 6)) (do_v de_non)))) (dw_or (dt_w (dw_and (dt_cmp s_notN op_notN (do_pl (pv 6)) (do_v de_non)) (dw_and1 (dt_w (dw_or (dt_tru (bok_of hr (rows_bool Z Zb)) (do_v (de_meth px_cx (mok_of hr (rows_shows Z Zb) some_shows) (do_v (de_o (do_make px_cx ((ok_Misdonedd_initdd Z Zb).kok Z.mk_Misdone hr) Z.g_Misdone (da_cons (do_v (de_add (do_v (de_ix (do_pl (pv 6)) (do_v de_int))) (do_v de_int))) (da_cons (do_v (de_ix (do_pl (pv 6)) (do_v de_int))) da_nil))))) (da_cons (do_pl (pv 3)) (da_cons (do_pl (pv 5)) da_nil))))) (dw_or1 (dt_tru (bok_of hr (rows_bool Z Zb)) (do_v (de_meth px_cx (mok_of hr (rows_shows Z Zb) some_shows) (do_v (de_o (do_make px_cx ((ok_Misdonedd_initdd Z Zb).kok Z.mk_Misdone hr) Z.g_Misdone (da_cons (do_v (de_ix (do_pl (pv 6)) (do_v de_int))) (da_cons (do_v (de_if (dt_cmp s_eq (op_eqD hr.units) (do_v (de_ix (do_pl (pv 6)) (do_v de_int))) (do_v de_str)) de_str de_str)) da_nil))))) (da_cons (do_pl (pv 3)) (da_cons (do_pl (pv 5)) da_nil))))))))))) (dw_or1 (dt_w (dw_and (dt_cmp s_isN op_isN (do_pl (pv 6)) (do_v de_non)) (dw_and1 (dt_tru (bok_of hr (rows_bool Z Zb)) (do_v (de_meth px_cx (mok_of hr (rows_shows Z Zb) some_shows) (do_v (de_o (do_make px_cx ((ok_Misdonedd_initdd Z Zb).kok Z.mk_Misdone hr) Z.g_Misdone (da_cons (do_v de_int) (da_cons (do_v de_str) da_nil))))) (da_cons (do_pl (pv 3)) (da_cons (do_pl (pv 5)) da_nil)))))))))))) (dss_one (ds_ret de_bl)) dss_nil)
    (dss_cons (ds_if (dt_cmp s_ne (op_neD hr.units) (do_v (de_call px_cx ((ok_doubles_in Z Zb).fok hr) Z.g_doubles_in (da_cons (do_pl (pv 5)) da_nil))) (do_v (de_callTy snd_tuple call_tupleP (da_cons (do_lc (own := [("place", 8), ("tag", 9)]) rfl hN (by kernel_rfl) (by decide) (di_enum (da_cons (do_v (de_name (pv 5))) da_nil) Z.n_enumerate) (fun _ _ _ _ _ => (dg_tup rfl (dgs_cons (dg_name hN) (dgs_cons (dg_name hN) dgs_nil)) (takes_cons (takes_cons takes_nil)))) (fun _ _ _ _ _ => (dts_one (dt_cmp s_in (op_inA (u65 hr)) (do_pl (pv 9)) (do_v (de_slice (do_pl (pv 5)) dp_none (dp_some (de_name (pv 8)))))))) (fun _ _ _ _ _ => (de_name (pv 8)))) da_nil) Z.n_tuple boot_tuple))) (dss_one (ds_ret de_bl)) dss_nil)
    (dss_cons (ds_set (i := 10) hN (do_v (de_callTy snd_tuple call_tupleP (da_cons (do_lc (own := [("step", 4)]) rfl hN (by kernel_rfl) (by decide) (di_range1 (da_cons (do_v (de_add (do_v de_int) (do_v (de_call px_cx ((ok__law_next Z Zb).fok hr) Z.g__law_next (da_cons (do_pl (pv 1)) (da_cons (do_v de_int) da_nil)))))) da_nil) Z.n_range) (fun _ _ _ _ _ => (dg_name hN)) (fun _ _ _ _ _ => dts_nil) (fun _ _ _ _ _ => (de_call psx0 ((ok__law_next Z Zb).fok hr) Z.g__law_next (da_cons (do_pl (pv 1)) (da_cons (do_v de_int) da_nil))))) da_nil) Z.n_tuple boot_tuple)))
    (dss_cons (ds_parN rfl (nms_cons (i := 11) hN (nms_cons (i := 12) hN nms_nil)) (da_cons (do_v (de_add (do_v de_int) (do_v (de_call px_cx ((ok__law_next Z Zb).fok hr) Z.g__law_next (da_cons (do_pl (pv 1)) (da_cons (do_v de_int) da_nil)))))) (da_cons (do_v (de_call px_cx ((ok__law_next Z Zb).fok hr) Z.g__law_next (da_cons (do_pl (pv 1)) (da_cons (do_v de_int) da_nil)))) da_nil)))
    (dss_cons (ds_if (dt_cmp s_ne (op_neD hr.units) (do_v (de_call px_cx ((ok_are_coming Z Zb).fok hr) Z.g_are_coming (da_cons (do_pl (pv 10)) (da_cons (do_pl (pv 11)) (da_cons (do_pl (pv 12)) (da_cons (do_pl (pv 5)) da_nil)))))) (do_v (de_call px_cx ((ok__law_can Z Zb).fok hr) Z.g__law_can (da_cons (do_pl (pv 10)) (da_cons (do_pl (pv 11)) (da_cons (do_pl (pv 12)) (da_cons (do_pl (pv 5)) da_nil))))))) (dss_one (ds_ret de_bl)) dss_nil)
    (dss_cons (ds_set (i := 13) hN (do_v (de_tup da_nil)))
    (dss_cons (ds_for hp_cx rfl (di_range1 (da_cons (do_v de_int) da_nil) Z.n_range) (dg_name hN)
    (dss_cons (ds_set (i := 16) hN (do_v (de_callBV snd_sumL (call_sumLC rfl) (da_cons (do_v (de_o (do_lc (own := [("client", 15)]) rfl hN (by kernel_rfl) (by decide) (di_range1 (da_cons (do_v (de_callB snd_len call_len2 (da_cons (do_pl (pv 10)) da_nil) Z.n_len boot_len)) da_nil) Z.n_range) (fun _ _ _ _ _ => (dg_name hN)) (fun _ _ _ _ _ => dts_nil) (fun _ _ _ _ _ => (de_o (do_lc (own := [("number", 14)]) rfl hN (by kernel_rfl) (by decide) (di_range1 (da_cons (do_v (de_ix (do_pl (pv 10)) (do_pl (pv 15)))) da_nil) Z.n_range) (fun _ _ _ _ _ => (dg_name hN)) (fun _ _ _ _ _ => (dts_one (dt_tru (bok_of hr (rows_bool Z Zb)) (do_v (de_call psx0 ((ok__law_can Z Zb).fok hr) Z.g__law_can (da_cons (do_pl (pv 10)) (da_cons (do_pl (pv 11)) (da_cons (do_pl (pv 12)) (da_cons (do_v (de_add (do_pl (pv 13)) (do_v (de_tup (da_cons (do_v (de_tup (da_cons (do_v (de_name (pv 15))) (da_cons (do_v (de_name (pv 14))) da_nil)))) da_nil))))) da_nil))))))))) (fun _ _ _ _ _ => (de_tup (da_cons (do_v (de_name (pv 15))) (da_cons (do_v (de_name (pv 14))) da_nil)))))))))) (da_cons (do_v (de_lst da_nil)) da_nil)) Z.n_sum boot_sum)))
    (dss_one (ds_set (i := 13) hN (do_v (de_add (do_pl (pv 13)) (do_v (de_if (dt_cmp s_ne (op_neD hr.units) (do_pl (pv 16)) (do_lst da_nil)) (de_tup (da_cons (do_v (de_call px_cx ((ok__law_pick Z Zb).fok hr) Z.g__law_pick (da_cons (do_pl (pv 1)) (da_cons (do_pl (pv 16)) da_nil)))) da_nil)) (de_tup da_nil)))))))))
    (dss_cons (ds_if (dt_w (dw_or (dt_not (dt_tru (bok_of hr (rows_bool Z Zb)) (do_v (de_call px_cx ((ok_are_coming Z Zb).fok hr) Z.g_are_coming (da_cons (do_pl (pv 10)) (da_cons (do_pl (pv 11)) (da_cons (do_pl (pv 12)) (da_cons (do_pl (pv 13)) da_nil)))))))) (dw_or (dt_not (dt_tru (bok_of hr (rows_bool Z Zb)) (do_v (de_call px_cx ((ok_judge_comes Z Zb).fok hr) Z.g_judge_comes (da_cons (do_v (de_tup (da_cons (do_v de_str) da_nil))) (da_cons (do_pl (pv 13)) da_nil)))))) (dw_or1 (dt_not (dt_tru (bok_of hr (rows_bool Z Zb)) (do_v (de_call px_cx ((ok_judge_comes Z Zb).fok hr) Z.g_judge_comes (da_cons (do_v (de_tup (da_cons (do_v de_str) da_nil))) (da_cons (do_pl (pv 13)) da_nil)))))))))) (dss_one (ds_ret de_bl)) dss_nil)
    (dss_cons (ds_set (i := 18) hN (do_v (de_dict (dks_cons (k := .inr "all") pe_str (de_callB snd_sum2 (call_sumS rfl) (da_cons (do_pl (pv 10)) da_nil) Z.n_sum boot_sum) (dks_cons (k := .inr "last") pe_str (de_callB snd_len call_len2 (da_cons (do_lc (own := [("many", 17)]) rfl hN (by kernel_rfl) (by decide) (di_seq (de_name (pv 10))) (fun _ _ _ _ _ => (dg_name hN)) (fun _ _ _ _ _ => (dts_one (dt_cmp s_gt op_gt (do_pl (pv 17)) (do_v de_int)))) (fun _ _ _ _ _ => (de_name (pv 17)))) da_nil) Z.n_len boot_len) dks_nil)))))
    (dss_one (ds_for hp_cx rfl (di_seq (de_tup (da_cons (do_v (de_tup (da_cons (do_v de_str) da_nil))) (da_cons (do_v (de_tup (da_cons (do_v de_str) da_nil))) (da_cons (do_v (de_tup (da_cons (do_v de_str) (da_cons (do_v de_int) da_nil)))) (da_cons (do_v (de_tup (da_cons (do_v de_str) (da_cons (do_v de_int) da_nil)))) (da_cons (do_v (de_tup (da_cons (do_v de_str) (da_cons (do_v de_int) da_nil)))) da_nil))))))) (dg_name hN)
    (dss_one (ds_if (dt_cmp s_ne (op_neD hr.units) (do_v (de_call px_cx ((ok_rows_kept Z Zb).fok hr) Z.g_rows_kept (da_cons (do_pl (pv 3)) (da_cons (do_pl (pv 10)) da_nil)))) (do_v (de_if (dt_cmp s_eq (op_eqD hr.units) (do_v (de_ix (do_pl (pv 3)) (do_v de_int))) (do_v de_str)) (de_callB snd_minS (call_minS rfl) (da_cons (do_lst (da_cons (do_v (de_ix (do_pl (pv 3)) (do_v de_int))) (da_cons (do_v (de_callB snd_sum2 (call_sumS rfl) (da_cons (do_pl (pv 10)) da_nil) Z.n_sum boot_sum)) da_nil))) da_nil) Z.n_min boot_min) (de_ix2 (u1 hr) (do_pl (pv 18)) (do_v (de_ix (do_pl (pv 3)) (do_v de_int))))))) (dss_one (ds_ret de_bl)) dss_nil))))))))))))))))))
    (dss_cons (ds_for hp_cx rfl (di_seq (de_tup (da_cons (do_v de_non) (da_cons (do_v (de_tup da_nil)) (da_cons (do_v (de_tup (da_cons (do_v de_str) (da_cons (do_v de_int) da_nil)))) (da_cons (do_v (de_tup (da_cons (do_v de_str) (da_cons (do_v de_int) da_nil)))) (da_cons (do_v (de_tup (da_cons (do_v de_str) da_nil))) (da_cons (do_v (de_tup (da_cons (do_v de_str) (da_cons (do_v de_int) da_nil)))) (da_cons (do_v (de_tup (da_cons (do_v de_str) (da_cons (do_v (de_neg (do_v de_int))) da_nil)))) (da_cons (do_v (de_tup (da_cons (do_v de_str) (da_cons (do_v de_bl) da_nil)))) (da_cons (do_v de_str) (da_cons (do_v (de_lst (da_cons (do_v de_str) da_nil))) (da_cons (do_v (de_tup (da_cons (do_v de_str) da_nil))) (da_cons (do_v (de_tup (da_cons (do_v de_int) da_nil))) da_nil)))))))))))))) (dg_name hN)
    (dss_cons (ds_if (dt_tru (bok_of hr (rows_bool Z Zb)) (do_v (de_call px_cx ((ok_is_memory Z Zb).fok hr) Z.g_is_memory (da_cons (do_pl (pv 19)) da_nil)))) (dss_one (ds_ret de_bl)) dss_nil)
    (dss_cons (ds_if (dt_not (dt_tru (bok_of hr (rows_bool Z Zb)) (do_v (de_refuse (k := 16) (rf_ok Z) Z.g__law_refuses Zb.t_law rfl List.mem_cons_self (by intro p hp _; cases List.mem_singleton.mp hp; rfl) (hr.mono (by decide)) (lamSB_of (sc := defScope s_law) rfl (by decide +kernel)) (fun _ _ _ _ _ _ _ hr => (de_call px_lam ((ok_done_by Z Zb).fok hr) Z.g_done_by (da_cons (do_pl (pv 19)) (da_cons (do_v (de_tup da_nil)) da_nil)))) (da_cons (do_v de_str) (da_cons (do_v de_non) da_nil)))))) (dss_one (ds_ret de_bl)) dss_nil)
    (dss_cons (ds_if (dt_not (dt_tru (bok_of hr (rows_bool Z Zb)) (do_v (de_refuse (k := 19) (rf_ok Z) Z.g__law_refuses Zb.t_law rfl List.mem_cons_self (by intro p hp _; cases List.mem_singleton.mp hp; rfl) (hr.mono (by decide)) (lamSB_of (sc := defScope s_law) rfl (by decide +kernel)) (fun _ _ _ _ _ _ _ hr => (de_call px_lam ((ok_judge_comes Z Zb).fok hr) Z.g_judge_comes (da_cons (do_pl (pv 19)) (da_cons (do_v (de_tup da_nil)) da_nil)))) (da_cons (do_v de_str) (da_cons (do_v de_non) da_nil)))))) (dss_one (ds_ret de_bl)) dss_nil)
    (dss_one (ds_if (dt_not (dt_tru (bok_of hr (rows_bool Z Zb)) (do_v (de_refuse (k := 16) (rf_ok Z) Z.g__law_refuses Zb.t_law rfl List.mem_cons_self (by intro p hp _; cases List.mem_singleton.mp hp; rfl) (hr.mono (by decide)) (lamSB_of (sc := defScope s_law) rfl (by decide +kernel)) (fun _ _ _ _ _ _ _ hr => (de_call px_lam ((ok_rows_kept Z Zb).fok hr) Z.g_rows_kept (da_cons (do_pl (pv 19)) (da_cons (do_v (de_tup (da_cons (do_v de_int) da_nil))) da_nil)))) (da_cons (do_v de_str) (da_cons (do_v de_non) da_nil)))))) (dss_one (ds_ret de_bl)) dss_nil))))))
    (dss_cons (ds_for hp_cx rfl (di_seq (de_tup (da_cons (do_v (de_tup (da_cons (do_v de_non) (da_cons (do_v de_non) da_nil)))) (da_cons (do_v (de_tup (da_cons (do_v (de_mul (do_v (de_tup (da_cons (do_v (de_tup (da_cons (do_v de_int) (da_cons (do_v de_int) da_nil)))) da_nil))) (do_v de_int))) (da_cons (do_v de_non) da_nil)))) (da_cons (do_v (de_tup (da_cons (do_v (de_tup (da_cons (do_v (de_tup (da_cons (do_v de_int) (da_cons (do_v de_int) da_nil)))) da_nil))) (da_cons (do_v de_int) da_nil)))) (da_cons (do_v (de_tup (da_cons (do_v (de_tup (da_cons (do_v (de_tup (da_cons (do_v de_int) (da_cons (do_v de_int) da_nil)))) (da_cons (do_v (de_tup (da_cons (do_v de_int) (da_cons (do_v de_int) da_nil)))) da_nil)))) (da_cons (do_v de_int) da_nil)))) (da_cons (do_v (de_tup (da_cons (do_v (de_tup (da_cons (do_v (de_tup (da_cons (do_v de_int) (da_cons (do_v de_bl) da_nil)))) da_nil))) (da_cons (do_v de_int) da_nil)))) (da_cons (do_v (de_tup (da_cons (do_v (de_tup (da_cons (do_v de_non) da_nil))) (da_cons (do_v de_int) da_nil)))) (da_cons (do_v (de_tup (da_cons (do_v (de_tup (da_cons (do_v (de_lst (da_cons (do_v de_int) (da_cons (do_v de_int) da_nil)))) da_nil))) (da_cons (do_v de_int) da_nil)))) (da_cons (do_v (de_tup (da_cons (do_v (de_tup (da_cons (do_v (de_tup (da_cons (do_v de_int) (da_cons (do_v de_int) (da_cons (do_v de_int) da_nil))))) da_nil))) (da_cons (do_v de_int) da_nil)))) da_nil)))))))))) (dg_tup rfl (dgs_cons (dg_name hN) (dgs_cons (dg_name hN) dgs_nil)) (takes_cons (takes_cons takes_nil)))
    (dss_cons (ds_if (dt_not (dt_tru (bok_of hr (rows_bool Z Zb)) (do_v (de_refuse (k := 16) (rf_ok Z) Z.g__law_refuses Zb.t_law rfl List.mem_cons_self (by intro p hp _; cases List.mem_singleton.mp hp; rfl) (hr.mono (by decide)) (lamSB_of (sc := defScope s_law) rfl (by decide +kernel)) (fun _ _ _ _ _ _ _ hr => (de_call px_lam ((ok_done_by Z Zb).fok hr) Z.g_done_by (da_cons (do_v (de_tup (da_cons (do_v de_str) da_nil))) (da_cons (do_pl (pv 19)) da_nil)))) (da_cons (do_v de_str) (da_cons (do_v (de_name (pv 8))) da_nil)))))) (dss_one (ds_ret de_bl)) dss_nil)
    (dss_cons (ds_if (dt_not (dt_tru (bok_of hr (rows_bool Z Zb)) (do_v (de_refuse (k := 16) (rf_ok Z) Z.g__law_refuses Zb.t_law rfl List.mem_cons_self (by intro p hp _; cases List.mem_singleton.mp hp; rfl) (hr.mono (by decide)) (lamSB_of (sc := defScope s_law) rfl (by decide +kernel)) (fun _ _ _ _ _ _ _ hr => (de_call px_lam ((ok_doubles_in Z Zb).fok hr) Z.g_doubles_in (da_cons (do_pl (pv 19)) da_nil))) (da_cons (do_v de_str) (da_cons (do_v (de_name (pv 8))) da_nil)))))) (dss_one (ds_ret de_bl)) dss_nil)
    (dss_one (ds_if (dt_not (dt_tru (bok_of hr (rows_bool Z Zb)) (do_v (de_refuse (k := 16) (rf_ok Z) Z.g__law_refuses Zb.t_law rfl List.mem_cons_self (by intro p hp _; cases List.mem_singleton.mp hp; rfl) (hr.mono (by decide)) (lamSB_of (sc := defScope s_law) rfl (by decide +kernel)) (fun _ _ _ _ _ _ _ hr => (de_call px_lam ((ok_are_coming Z Zb).fok hr) Z.g_are_coming (da_cons (do_v (de_tup (da_cons (do_v de_int) da_nil))) (da_cons (do_v de_int) (da_cons (do_v de_int) (da_cons (do_pl (pv 19)) da_nil)))))) (da_cons (do_v de_str) (da_cons (do_v (de_name (pv 8))) da_nil)))))) (dss_one (ds_ret de_bl)) dss_nil)))))
    (dss_cons (ds_for hp_cx rfl (di_seq (de_tup (da_cons (do_v (de_tup (da_cons (do_v de_non) (da_cons (do_v de_non) da_nil)))) (da_cons (do_v (de_tup (da_cons (do_v (de_tup da_nil)) (da_cons (do_v de_non) da_nil)))) (da_cons (do_v (de_tup (da_cons (do_v (de_mul (do_v (de_tup (da_cons (do_v de_int) da_nil))) (do_v de_int))) (da_cons (do_v de_non) da_nil)))) (da_cons (do_v (de_tup (da_cons (do_v (de_tup (da_cons (do_v de_int) (da_cons (do_v de_int) da_nil)))) (da_cons (do_v de_int) da_nil)))) (da_cons (do_v (de_tup (da_cons (do_v (de_tup (da_cons (do_v (de_neg (do_v de_int))) da_nil))) (da_cons (do_v de_int) da_nil)))) (da_cons (do_v (de_tup (da_cons (do_v (de_tup (da_cons (do_v de_bl) da_nil))) (da_cons (do_v de_int) da_nil)))) da_nil)))))))) (dg_tup rfl (dgs_cons (dg_name hN) (dgs_cons (dg_name hN) dgs_nil)) (takes_cons (takes_cons takes_nil)))
    (dss_cons (ds_if (dt_not (dt_tru (bok_of hr (rows_bool Z Zb)) (do_v (de_refuse (k := 16) (rf_ok Z) Z.g__law_refuses Zb.t_law rfl List.mem_cons_self (by intro p hp _; cases List.mem_singleton.mp hp; rfl) (hr.mono (by decide)) (lamSB_of (sc := defScope s_law) rfl (by decide +kernel)) (fun _ _ _ _ _ _ _ hr => (de_call px_lam ((ok_are_coming Z Zb).fok hr) Z.g_are_coming (da_cons (do_pl (pv 19)) (da_cons (do_v de_int) (da_cons (do_v de_int) (da_cons (do_v (de_tup da_nil)) da_nil)))))) (da_cons (do_v de_str) (da_cons (do_v (de_name (pv 8))) da_nil)))))) (dss_one (ds_ret de_bl)) dss_nil)
    (dss_one (ds_if (dt_not (dt_tru (bok_of hr (rows_bool Z Zb)) (do_v (de_refuse (k := 16) (rf_ok Z) Z.g__law_refuses Zb.t_law rfl List.mem_cons_self (by intro p hp _; cases List.mem_singleton.mp hp; rfl) (hr.mono (by decide)) (lamSB_of (sc := defScope s_law) rfl (by decide +kernel)) (fun _ _ _ _ _ _ _ hr => (de_call px_lam ((ok_rows_kept Z Zb).fok hr) Z.g_rows_kept (da_cons (do_v (de_tup (da_cons (do_v de_str) da_nil))) (da_cons (do_pl (pv 19)) da_nil)))) (da_cons (do_v de_str) (da_cons (do_v (de_name (pv 8))) da_nil)))))) (dss_one (ds_ret de_bl)) dss_nil))))
    (dss_cons (ds_for hp_cx rfl (di_seq (de_tup (da_cons (do_v de_int) (da_cons (do_v de_int) (da_cons (do_v de_non) (da_cons (do_v de_bl) da_nil)))))) (dg_name hN)
    (dss_one (ds_if (dt_not (dt_tru (bok_of hr (rows_bool Z Zb)) (do_v (de_refuse (k := 16) (rf_ok Z) Z.g__law_refuses Zb.t_law rfl List.mem_cons_self (by intro p hp _; cases List.mem_singleton.mp hp; rfl) (hr.mono (by decide)) (lamSB_of (sc := defScope s_law) rfl (by decide +kernel)) (fun _ _ _ _ _ _ _ hr => (de_call px_lam ((ok_are_coming Z Zb).fok hr) Z.g_are_coming (da_cons (do_v (de_tup (da_cons (do_v de_int) da_nil))) (da_cons (do_pl (pv 19)) (da_cons (do_v de_int) (da_cons (do_v (de_tup da_nil)) da_nil)))))) (da_cons (do_v de_str) (da_cons (do_v de_non) da_nil)))))) (dss_one (ds_ret de_bl)) dss_nil)))
    (dss_cons (ds_if (dt_not (dt_tru (bok_of hr (rows_bool Z Zb)) (do_v (de_refuse (k := 16) (rf_ok Z) Z.g__law_refuses Zb.t_law rfl List.mem_cons_self (by intro p hp _; cases List.mem_singleton.mp hp; rfl) (hr.mono (by decide)) (lamSB_of (sc := defScope s_law) rfl (by decide +kernel)) (fun _ _ _ _ _ _ _ hr => (de_call px_lam ((ok_are_coming Z Zb).fok hr) Z.g_are_coming (da_cons (do_v (de_tup (da_cons (do_v de_int) da_nil))) (da_cons (do_v de_int) (da_cons (do_v de_int) (da_cons (do_v (de_tup da_nil)) da_nil)))))) (da_cons (do_v de_str) (da_cons (do_v de_non) da_nil)))))) (dss_one (ds_ret de_bl)) dss_nil)
    (dss_cons (ds_if (dt_not (dt_tru (bok_of hr (rows_bool Z Zb)) (do_v (de_refuse (k := 16) (rf_ok Z) Z.g__law_refuses Zb.t_law rfl List.mem_cons_self (by intro p hp _; cases List.mem_singleton.mp hp; rfl) (hr.mono (by decide)) (lamSB_of (sc := defScope s_law) rfl (by decide +kernel)) (fun _ _ _ _ _ _ _ hr => (de_call px_lam ((ok_are_coming Z Zb).fok hr) Z.g_are_coming (da_cons (do_v (de_tup (da_cons (do_v de_int) da_nil))) (da_cons (do_v de_int) (da_cons (do_v (de_neg (do_v de_int))) (da_cons (do_v (de_tup da_nil)) da_nil)))))) (da_cons (do_v de_str) (da_cons (do_v de_non) da_nil)))))) (dss_one (ds_ret de_bl)) dss_nil)
    (dss_one (ds_ret (de_and (de_eqM (qok Z Zb hr) hr.units (do_v (de_call px_cx ((ok_judge_comes Z Zb).fok hr) Z.g_judge_comes (da_cons (do_v (de_tup (da_cons (do_v de_str) (da_cons (do_v de_int) da_nil)))) (da_cons (do_v (de_tup (da_cons (do_v (de_tup (da_cons (do_v de_int) (da_cons (do_v de_int) da_nil)))) da_nil))) da_nil)))) (do_v (de_o (do_make0 (c := 0) Z.mk_Just Z.g_Just)))) (de_one (de_cmp s_eq (op_eqD hr.units) (do_v (de_call px_cx ((ok_done_by Z Zb).fok hr) Z.g_done_by (da_cons (do_v (de_tup (da_cons (do_v de_str) da_nil))) (da_cons (do_v (de_mul (do_v (de_tup (da_cons (do_v (de_tup (da_cons (do_v de_int) (da_cons (do_v de_int) da_nil)))) da_nil))) (do_v de_int))) da_nil)))) (do_v (de_add (do_v (de_tup (da_cons (do_v de_bl) da_nil))) (do_v (de_mul (do_v (de_tup (da_cons (do_v de_bl) da_nil))) (do_v de_int))))))))))))))))))
theorem fd_law (Z : Ctx K mg) : ∃ fd, (∀ (s : Shared) (u : Value), BindsTo s fd ⟨[u], []⟩ [("script", u)]) ∧ ∀ base : Heap, Ctb K mg base → FnOk P w K mg base (L2.CX P w) 23 (He.ga K "law") fd ["script"] (spOf K (TT K) 1 F_law) := by
  obtain ⟨fd, F⟩ := Z.f_law
  have b := FunD.bindsA (ps := ["script"]) F (fun _ _ _ _ _ _ us hl => match us, hl with | [_], _ => rfl)
  exact ⟨fd, fun s u => b s [u] rfl, fun base Zb => fn_specC (k := 22) (p := ("law", none)) F rfl sc_law fun A outer s H E hr => bd_law Z Zb A outer s H E hr⟩
end
end A
end
section
set_option maxHeartbeats 0
namespace A
open PySem PySem.Spec PyProof.Rows L2 Zd
set_option autoImplicit false
def dd_is_row : He.DefD := ⟨("is_row", none), "is_row", "is_row", defArgs s_is_row, defBody s_is_row, defScope s_is_row, [], []⟩
def dd_is_integer : He.DefD := ⟨("is_integer", none), "is_integer", "is_integer", defArgs s_is_integer, defBody s_is_integer, defScope s_is_integer, [], []⟩
def dd_is_number : He.DefD := ⟨("is_number", none), "is_number", "is_number", defArgs s_is_number, defBody s_is_number, defScope s_is_number, [], []⟩
def dd_is_pair : He.DefD := ⟨("is_pair", none), "is_pair", "is_pair", defArgs s_is_pair, defBody s_is_pair, defScope s_is_pair, [], []⟩
def dd_is_tag : He.DefD := ⟨("is_tag", none), "is_tag", "is_tag", defArgs s_is_tag, defBody s_is_tag, defScope s_is_tag, [], []⟩
def dd_Justdd_booldd : He.DefD := ⟨("Just", some "__bool__"), "__bool__", "Just.__bool__", defArgs s_Justdd_booldd, defBody s_Justdd_booldd, defScope s_Justdd_booldd, [], []⟩
def dd_Misdonedd_booldd : He.DefD := ⟨("Misdone", some "__bool__"), "__bool__", "Misdone.__bool__", defArgs s_Misdonedd_booldd, defBody s_Misdonedd_booldd, defScope s_Misdonedd_booldd, [], []⟩
def dd_check_comes : He.DefD := ⟨("check_comes", none), "check_comes", "check_comes", defArgs s_check_comes, defBody s_check_comes, defScope s_check_comes, [], []⟩
def dd_is_memory : He.DefD := ⟨("is_memory", none), "is_memory", "is_memory", defArgs s_is_memory, defBody s_is_memory, defScope s_is_memory, [], []⟩
def dd_check_memory : He.DefD := ⟨("check_memory", none), "check_memory", "check_memory", defArgs s_check_memory, defBody s_check_memory, defScope s_check_memory, [], []⟩
def dd_is_known : He.DefD := ⟨("is_known", none), "is_known", "is_known", defArgs s_is_known, defBody s_is_known, defScope s_is_known, [], []⟩
def dd_kept_behind : He.DefD := ⟨("kept_behind", none), "kept_behind", "kept_behind", defArgs s_kept_behind, defBody s_kept_behind, defScope s_kept_behind, [], []⟩
def dd_done_by : He.DefD := ⟨("done_by", none), "done_by", "done_by", defArgs s_done_by, defBody s_done_by, defScope s_done_by, [], []⟩
def dd_Misdonedd_initdd : He.DefD := ⟨("Misdone", some "__init__"), "__init__", "Misdone.__init__", defArgs s_Misdonedd_initdd, defBody s_Misdonedd_initdd, defScope s_Misdonedd_initdd, [], []⟩
def dd_judge_comes : He.DefD := ⟨("judge_comes", none), "judge_comes", "judge_comes", defArgs s_judge_comes, defBody s_judge_comes, defScope s_judge_comes, [], []⟩
def dd_check_crowd : He.DefD := ⟨("check_crowd", none), "check_crowd", "check_crowd", defArgs s_check_crowd, defBody s_check_crowd, defScope s_check_crowd, [], []⟩
def dd_rows_kept : He.DefD := ⟨("rows_kept", none), "rows_kept", "rows_kept", defArgs s_rows_kept, defBody s_rows_kept, defScope s_rows_kept, [], []⟩
def dd_doubles_in : He.DefD := ⟨("doubles_in", none), "doubles_in", "doubles_in", defArgs s_doubles_in, defBody s_doubles_in, defScope s_doubles_in, [], []⟩
def dd_may_come : He.DefD := ⟨("may_come", none), "may_come", "may_come", defArgs s_may_come, defBody s_may_come, defScope s_may_come, [], []⟩
def dd_are_coming : He.DefD := ⟨("are_coming", none), "are_coming", "are_coming", defArgs s_are_coming, defBody s_are_coming, defScope s_are_coming, [], []⟩
def dd_Just_shows : He.DefD := ⟨("Just", some "shows"), "shows", "Just.shows", defArgs s_Just_shows, defBody s_Just_shows, defScope s_Just_shows, [], []⟩
def dd_Justdd_eqdd : He.DefD := ⟨("Just", some "__eq__"), "__eq__", "Just.__eq__", defArgs s_Justdd_eqdd, defBody s_Justdd_eqdd, defScope s_Justdd_eqdd, [], []⟩
def dd_Misdonedd_eqdd : He.DefD := ⟨("Misdone", some "__eq__"), "__eq__", "Misdone.__eq__", defArgs s_Misdonedd_eqdd, defBody s_Misdonedd_eqdd, defScope s_Misdonedd_eqdd, [], []⟩
def dd_Misdone_shows : He.DefD := ⟨("Misdone", some "shows"), "shows", "Misdone.shows", defArgs s_Misdone_shows, defBody s_Misdone_shows, defScope s_Misdone_shows, [], []⟩
def dd__law_can : He.DefD := ⟨("_law_can", none), "_law_can", "_law_can", defArgs s__law_can, defBody s__law_can, defScope s__law_can, [], []⟩
def dd__law_done : He.DefD := ⟨("_law_done", none), "_law_done", "_law_done", defArgs s__law_done, defBody s__law_done, defScope s__law_done, [], []⟩
def dd__law_judged : He.DefD := ⟨("_law_judged", none), "_law_judged", "_law_judged", defArgs s__law_judged, defBody s__law_judged, defScope s__law_judged, [], []⟩
def dd__law_cell_at : He.DefD := ⟨("_law_cell_at", none), "_law_cell_at", "_law_cell_at", defArgs s__law_cell_at, defBody s__law_cell_at, defScope s__law_cell_at, [], []⟩
def dd__law_draw : He.DefD := ⟨("_law_draw", none), "_law_draw", "_law_draw", defArgs s__law_draw, defBody s__law_draw, defScope s__law_draw, [], []⟩
def dd__law_number : He.DefD := ⟨("_law_number", none), "_law_number", "_law_number", defArgs s__law_number, defBody s__law_number, defScope s__law_number, [], []⟩
def dd__law_next : He.DefD := ⟨("_law_next", none), "_law_next", "_law_next", defArgs s__law_next, defBody s__law_next, defScope s__law_next, [], []⟩
def dd__law_pick : He.DefD := ⟨("_law_pick", none), "_law_pick", "_law_pick", defArgs s__law_pick, defBody s__law_pick, defScope s__law_pick, [], []⟩
def dd_law : He.DefD := ⟨("law", none), "law", "law", defArgs s_law, defBody s_law, defScope s_law, [], []⟩
def dd__law_refuses : He.DefD := ⟨("_law_refuses", none), "_law_refuses", "_law_refuses", defArgs s__law_refuses, defBody s__law_refuses, defScope s__law_refuses, [], []⟩
def dd_BadPartdd_initdd : He.DefD := ⟨("BadPart", some "__init__"), "__init__", "BadPart.__init__", defArgs s_BadPartdd_initdd, defBody s_BadPartdd_initdd, defScope s_BadPartdd_initdd, [], []⟩
def fn0 : List He.DefD := [dd_is_row, dd_is_integer, dd_is_number, dd_is_pair, dd_is_tag, dd_Justdd_booldd, dd_Misdonedd_booldd, dd_check_comes, dd_is_memory, dd_check_memory, dd_is_known, dd_kept_behind, dd_done_by, dd_Misdonedd_initdd, dd_judge_comes, dd_check_crowd, dd_rows_kept, dd_doubles_in, dd_may_come, dd_are_coming, dd_Just_shows, dd_Justdd_eqdd, dd_Misdonedd_eqdd, dd_Misdone_shows, dd__law_can, dd__law_done, dd__law_judged, dd__law_cell_at, dd__law_draw, dd__law_number]
def fn1 : List He.DefD := [dd__law_next, dd__law_pick, dd_law, dd__law_refuses, dd_BadPartdd_initdd]
def fn : List He.DefD := fn0 ++ fn1
def fa0 : List He.Fa := [.glo "is_row", .glo "is_integer", .glo "is_number", .glo "is_pair", .glo "is_tag", .glo "check_comes", .glo "is_memory", .glo "check_memory", .glo "is_known", .glo "kept_behind", .glo "done_by", .glo "judge_comes", .glo "check_crowd", .glo "rows_kept", .glo "doubles_in", .glo "may_come", .glo "are_coming", .glo "_law_can", .glo "_law_done", .glo "_law_judged", .glo "_law_cell_at", .glo "_law_draw", .glo "_law_number", .glo "_law_next", .glo "_law_pick", .glo "law", .glo "Just", .cls "Just", .glo "Misdone", .cls "Misdone"]
def fa1 : List He.Fa := [.free "any", .free "bool", .free "enumerate", .free "int", .free "isinstance", .free "len", .free "list", .free "max", .free "min", .free "range", .free "sorted", .free "sum", .free "tuple", .int "MOST_CLIENTS" 4, .int "MOST_COMES" 24, .int "MOST_WINDOW" 12, .noat "Misdone" "how", .noat "Misdone" "place", .mkr "Misdone", .glo "BadPart", .meth "Just" "__bool__", .meth "Misdone" "__bool__", .meth "Just" "shows", .meth "Misdone" "shows", .glo "_law_refuses"]
def fa : List He.Fa := fa0 ++ fa1
def exL : List (PySem.W.Frag → Bool) := [mk0B "Just", iscB "Just" "Just" true, iscB "Misdone" "Just" false, iscB "Just" "Misdone" false, iscB "Misdone" "Misdone" true, excFB "BadPart" ["part", "place"], eqnB "Just", eqnB "Misdone", nfB ["Just", "Misdone"]]
def ex (K : PySem.W.Frag) : Bool := exL.all fun f => f K
abbrev R : PySem.W.OpenRow := PySem.W.OpenLaw.row PySem.Challenge.rw_neverlies_k73_whole_memories
def tf : List He.Defn := [("law", none)]
abbrev hk : PySem.W.Hook := He.hookX 5 fa fn [] tf ex
def ob (s : PySem.W.SharedT) : He.AlX := He.obsX 5 fa fn [] tf ex (HandSHeadRun.getT s)
theorem ob_eq (s : PySem.W.SharedT) : ob s = hk.obs s.abs := He.obsX_eq (HandSHeadRun.getT_eq s)
def loose0 : List Str := ["LieError", "BadPart", "is_integer", "is_row", "is_number", "is_pair", "MOST_CLIENTS", "is_tag", "MOST_WINDOW", "MOST_COMES", "is_memory", "check_memory", "check_comes", "is_known", "kept_behind", "done_by", "Just", "Misdone", "judge_comes", "check_crowd", "are_coming", "may_come", "doubles_in", "rows_kept", "_law_cell_at", "_law_draw", "_law_number", "_law_next", "_law_pick", "_law_refuses"]
def loose1 : List Str := ["_law_done", "_law_judged", "_law_can"]
def loose : List Str := loose0 ++ loose1
theorem hd_run (w : World) : HandSHeadRun.RunEq R (PySem.W.view R.prog [38]) hk ob 6000 loose w := by
  intro os
  kernel_rfl
theorem ctx_of {w : World} {h h0 : Heap} {K : PySem.W.Frag} {mg : Str → Option Value} (X : K.In h) (G : h.Ns mainGlobals mg) (c : He.SaysX fa fn [] tf ex w h0 K) : Ctx K mg := by
  have k_Just := He.cls_ok (c.t.d.fact 27 (f := .cls "Just") rfl)
  have k_Misdone := He.cls_ok (c.t.d.fact 29 (f := .cls "Misdone") rfl)
  exact ⟨He.glo_ok X G (c.t.d.fact 0 (f := .glo "is_row") rfl),
    He.glo_ok X G (c.t.d.fact 1 (f := .glo "is_integer") rfl),
    He.glo_ok X G (c.t.d.fact 2 (f := .glo "is_number") rfl),
    He.glo_ok X G (c.t.d.fact 3 (f := .glo "is_pair") rfl),
    He.glo_ok X G (c.t.d.fact 4 (f := .glo "is_tag") rfl),
    He.glo_ok X G (c.t.d.fact 5 (f := .glo "check_comes") rfl),
    He.glo_ok X G (c.t.d.fact 6 (f := .glo "is_memory") rfl),
    He.glo_ok X G (c.t.d.fact 7 (f := .glo "check_memory") rfl),
    He.glo_ok X G (c.t.d.fact 8 (f := .glo "is_known") rfl),
    He.glo_ok X G (c.t.d.fact 9 (f := .glo "kept_behind") rfl),
    He.glo_ok X G (c.t.d.fact 10 (f := .glo "done_by") rfl),
    He.glo_ok X G (c.t.d.fact 11 (f := .glo "judge_comes") rfl),
    He.glo_ok X G (c.t.d.fact 12 (f := .glo "check_crowd") rfl),
    He.glo_ok X G (c.t.d.fact 13 (f := .glo "rows_kept") rfl),
    He.glo_ok X G (c.t.d.fact 14 (f := .glo "doubles_in") rfl),
    He.glo_ok X G (c.t.d.fact 15 (f := .glo "may_come") rfl),
    He.glo_ok X G (c.t.d.fact 16 (f := .glo "are_coming") rfl),
    He.glo_ok X G (c.t.d.fact 17 (f := .glo "_law_can") rfl),
    He.glo_ok X G (c.t.d.fact 18 (f := .glo "_law_done") rfl),
    He.glo_ok X G (c.t.d.fact 19 (f := .glo "_law_judged") rfl),
    He.glo_ok X G (c.t.d.fact 20 (f := .glo "_law_cell_at") rfl),
    He.glo_ok X G (c.t.d.fact 21 (f := .glo "_law_draw") rfl),
    He.glo_ok X G (c.t.d.fact 22 (f := .glo "_law_number") rfl),
    He.glo_ok X G (c.t.d.fact 23 (f := .glo "_law_next") rfl),
    He.glo_ok X G (c.t.d.fact 24 (f := .glo "_law_pick") rfl),
    He.glo_ok X G (c.t.d.fact 25 (f := .glo "law") rfl),
    He.glo_ok X G (c.t.d.fact 26 (f := .glo "Just") rfl),
    k_Just,
    He.glo_ok X G (c.t.d.fact 28 (f := .glo "Misdone") rfl),
    k_Misdone,
    He.free_ok X G (c.t.d.fact 30 (f := .free "any") rfl),
    He.free_ok X G (c.t.d.fact 31 (f := .free "bool") rfl),
    He.free_ok X G (c.t.d.fact 32 (f := .free "enumerate") rfl),
    He.free_ok X G (c.t.d.fact 33 (f := .free "int") rfl),
    He.free_ok X G (c.t.d.fact 34 (f := .free "isinstance") rfl),
    He.free_ok X G (c.t.d.fact 35 (f := .free "len") rfl),
    He.free_ok X G (c.t.d.fact 36 (f := .free "list") rfl),
    He.free_ok X G (c.t.d.fact 37 (f := .free "max") rfl),
    He.free_ok X G (c.t.d.fact 38 (f := .free "min") rfl),
    He.free_ok X G (c.t.d.fact 39 (f := .free "range") rfl),
    He.free_ok X G (c.t.d.fact 40 (f := .free "sorted") rfl),
    He.free_ok X G (c.t.d.fact 41 (f := .free "sum") rfl),
    He.free_ok X G (c.t.d.fact 42 (f := .free "tuple") rfl),
    He.int_ok X G (c.t.d.fact 43 (f := .int "MOST_CLIENTS" 4) rfl),
    He.int_ok X G (c.t.d.fact 44 (f := .int "MOST_COMES" 24) rfl),
    He.int_ok X G (c.t.d.fact 45 (f := .int "MOST_WINDOW" 12) rfl),
    He.noat_ok (c.t.d.fact 46 (f := .noat "Misdone" "how") rfl),
    He.noat_ok (c.t.d.fact 47 (f := .noat "Misdone" "place") rfl),
    mk0_ok (ex_at c.more 0 rfl),
    He.mkr_ok (c.t.d.fact 48 (f := .mkr "Misdone") rfl),
    isc_ok (k_Just) (ex_at c.more 1 rfl),
    isc_ok (k_Misdone) (ex_at c.more 2 rfl),
    isc_ok (k_Just) (ex_at c.more 3 rfl),
    isc_ok (k_Misdone) (ex_at c.more 4 rfl),
    He.glo_ok X G (c.t.d.fact 49 (f := .glo "BadPart") rfl),
    excF_ok (ex_at c.more 5 rfl),
    (ex_at c.more 6 rfl),
    (ex_at c.more 7 rfl),
    (ex_at c.more 8 rfl),
    He.meth_ok (c.t.d.fact 50 (f := .meth "Just" "__bool__") rfl),
    He.meth_ok (c.t.d.fact 51 (f := .meth "Misdone" "__bool__") rfl),
    He.meth_ok (c.t.d.fact 52 (f := .meth "Just" "shows") rfl),
    He.meth_ok (c.t.d.fact 53 (f := .meth "Misdone" "shows") rfl),
    He.glo_ok X G (c.t.d.fact 54 (f := .glo "_law_refuses") rfl),
    c.t.d.def_ 0 (d := dd_is_row) rfl,
    c.t.d.def_ 1 (d := dd_is_integer) rfl,
    c.t.d.def_ 2 (d := dd_is_number) rfl,
    c.t.d.def_ 3 (d := dd_is_pair) rfl,
    c.t.d.def_ 4 (d := dd_is_tag) rfl,
    c.t.d.def_ 5 (d := dd_Justdd_booldd) rfl,
    c.t.d.def_ 6 (d := dd_Misdonedd_booldd) rfl,
    c.t.d.def_ 7 (d := dd_check_comes) rfl,
    c.t.d.def_ 8 (d := dd_is_memory) rfl,
    c.t.d.def_ 9 (d := dd_check_memory) rfl,
    c.t.d.def_ 10 (d := dd_is_known) rfl,
    c.t.d.def_ 11 (d := dd_kept_behind) rfl,
    c.t.d.def_ 12 (d := dd_done_by) rfl,
    c.t.d.def_ 13 (d := dd_Misdonedd_initdd) rfl,
    c.t.d.def_ 14 (d := dd_judge_comes) rfl,
    c.t.d.def_ 15 (d := dd_check_crowd) rfl,
    c.t.d.def_ 16 (d := dd_rows_kept) rfl,
    c.t.d.def_ 17 (d := dd_doubles_in) rfl,
    c.t.d.def_ 18 (d := dd_may_come) rfl,
    c.t.d.def_ 19 (d := dd_are_coming) rfl,
    c.t.d.def_ 20 (d := dd_Just_shows) rfl,
    c.t.d.def_ 21 (d := dd_Justdd_eqdd) rfl,
    c.t.d.def_ 22 (d := dd_Misdonedd_eqdd) rfl,
    c.t.d.def_ 23 (d := dd_Misdone_shows) rfl,
    c.t.d.def_ 24 (d := dd__law_can) rfl,
    c.t.d.def_ 25 (d := dd__law_done) rfl,
    c.t.d.def_ 26 (d := dd__law_judged) rfl,
    c.t.d.def_ 27 (d := dd__law_cell_at) rfl,
    c.t.d.def_ 28 (d := dd__law_draw) rfl,
    c.t.d.def_ 29 (d := dd__law_number) rfl,
    c.t.d.def_ 30 (d := dd__law_next) rfl,
    c.t.d.def_ 31 (d := dd__law_pick) rfl,
    c.t.d.def_ 32 (d := dd_law) rfl,
    c.t.d.def_ 33 (d := dd__law_refuses) rfl,
    c.t.d.def_ 34 (d := dd_BadPartdd_initdd) rfl⟩
theorem holds_of (hL : ∀ ns : List Int, ns.length ≤ 63 → ∃ outs, F_law [.val (.frz (ns.map D.int))] = .ok outs (.bl true)) : PySem.W.OpenRow.Holds R := by
  refine HandSHeadRun.head_any (r := R) (q := PySem.W.view R.prog [38]) (H := hk) (ob := ob) (M := 6000) (loose := loose) (d := HandSHeadRun.topDef R.prog 38) (kwd := []) ob_eq
    (by kernel_rfl) (fun s => by kernel_rfl) hd_run (by kernel_rfl) (by kernel_rfl) (by kernel_rfl) (by rfl) (by first | assumption | decide +kernel) (by decide +kernel) ⟨rfl, rfl, rfl, rfl, rfl, by decide +kernel⟩ ?hw ?hc
  case hw => w_witness2
  case hc =>
    refine LamX.walk_ofTsE (l := PySem.Challenge.rw_neverlies_k73_whole_memories) (n := 63) (k := 23) (x := "script") (CX := fun w => L2.CX R.prog w) rfl (by decide) (by kernel_rfl) ⟨rfl, by decide, by decide⟩ ?F (fun w => Zd.cx_out)
    intro w mg fa h Y G hmg0
    obtain ⟨K, KX, c⟩ := Y
    have hmg : mg ("law" : PySem.Str) = some (.ref fa) := by
      have e : (HandSHeadRun.topDef R.prog 38).name = ("law" : PySem.Str) := by kernel_rfl
      rw [← e]
      exact hmg0
    have Z : Ctx K mg := ctx_of KX G c
    have e := hmg.symm.trans Z.g_law
    cases e
    obtain ⟨fd, hb, hF⟩ := fd_law (P := R.prog) (w := w) Z
    exact ⟨K, KX, Zd.at_s KX c hb (T := TT K) (fun p hp => by
      simp only [TT, List.mem_cons, List.not_mem_nil, or_false] at hp
      rcases hp with rfl
      · exact ⟨("law", none), by decide +kernel, rfl⟩) hL fun base h1 h2 tbs => hF base ⟨trivial, tbs ("law", none) (by decide +kernel)⟩⟩
end A
end
section
/-! plain helpers for any law's reading -/
namespace Zd
open PySem
set_option autoImplicit false
theorem bV_val (d : D) : bVal (.val d) = d := rfl
theorem bV_own (t : Nat) (o : OD) : bVal (.own t o) = o.toD := rfl
theorem tD_lst (xs : List D) : OD.toD (.lst xs) = .lst xs := rfl
theorem tD_ins (c : Nat) (xs : List D) : OD.toD (.ins c xs) = .ins c xs := rfl
abbrev iv (i : Int) : B := .val (.int i)
abbrev sv (d : D) : Option B := some (.val d)
def tIs (L : List Int) : D := .tup (L.map D.int)
def fIs (L : List Int) : D := .lst (L.map D.int)
def Tg (p : Int × Int) : D := .tup [.int p.1, .int p.2]
def tT (C : List (Int × Int)) : D := .tup (C.map Tg)
def lT (C : List (Int × Int)) : D := .lst (C.map Tg)
def tB (L : List Bool) : D := .tup (L.map D.bl)
def lB (L : List Bool) : D := .lst (L.map D.bl)
/-! ### equality -/
theorem depth_of {α : Type} (f : α → D) (n : Nat) (h : ∀ x, PyData.depth (f x).py ≤ n) : ∀ L : List α, PyData.depthAll (D.pys (L.map f)) ≤ n
  | [] => by simp [D.pys, PyData.depthAll]
  | x :: L => by
    have := depth_of f n h L
    have := h x
    simp only [List.map_cons, D.pys, PyData.depthAll]
    omega
theorem flats_of {α : Type} (f : α → D) (h : ∀ x, (f x).flat = true) : ∀ L : List α, D.flats (L.map f) = true
  | [] => rfl
  | x :: L => by simp [D.flats, h, flats_of f h L]
theorem eqbs_of {α : Type} [DecidableEq α] (f : α → D) (h : ∀ x y, (f x).eqb (f y) = decide (x = y)) : ∀ L M : List α, D.eqbs (L.map f) (M.map f) = decide (L = M)
  | [], [] => rfl
  | [], _ :: _ => by simp [D.eqbs]
  | _ :: _, [] => by simp [D.eqbs]
  | x :: L, y :: M => by
    by_cases e : x = y <;> simp [D.eqbs, h, eqbs_of f h L M, e]
theorem inB_of {α : Type} [DecidableEq α] (f : α → D) (h : ∀ x y, (f x).eqb (f y) = decide (x = y)) (t : α) (L : List α) : inB (f t) (L.map f) = decide (t ∈ L) := by
  induction L with
  | nil => rfl
  | cons x L ih =>
    simp only [inB, List.map_cons, List.any_cons, h] at ih ⊢
    rw [ih]
    by_cases e : x = t
    · simp [e]
    · simp [e, Ne.symm e]
theorem eqb_int (a b : Int) : (D.int a).eqb (.int b) = decide (a = b) := by by_cases h : a = b <;> simp [D.eqb, h]
theorem eqb_bl (a b : Bool) : (D.bl a).eqb (.bl b) = decide (a = b) := by cases a <;> cases b <;> rfl
theorem eqb_Tg (a b : Int × Int) : (Tg a).eqb (Tg b) = decide (a = b) := by
  obtain ⟨a1, a2⟩ := a
  obtain ⟨b1, b2⟩ := b
  by_cases h : a1 = b1 <;> by_cases h2 : a2 = b2 <;> simp [Tg, D.eqb, D.eqbs, h, h2]
theorem fine_of {d : D} {n : Nat} (h : d.flat = true) (h2 : PyData.depth d.py ≤ n) (hn : n ≤ 64 := by decide) : d.fine = true := by
  simp only [D.fine, Bool.and_eq_true, decide_eq_true_eq]
  exact ⟨h, Nat.le_trans h2 hn⟩
theorem dp_int (a : Int) : PyData.depth (D.int a).py ≤ 0 := by simp [D.py, PyData.depth]
theorem dp_bl (a : Bool) : PyData.depth (D.bl a).py ≤ 0 := by simp [D.py, PyData.depth]
theorem dp_Tg (a : Int × Int) : PyData.depth (Tg a).py ≤ 2 := by simp [Tg, D.py, D.pys, PyData.depth, PyData.depthAll]
theorem dp_tup {α : Type} (f : α → D) (n : Nat) (h : ∀ x, PyData.depth (f x).py ≤ n) (L : List α) : PyData.depth (D.tup (L.map f)).py ≤ n + 1 := by
  have := depth_of f n h L
  simp [D.py, PyData.depth]; omega
theorem dp_lst {α : Type} (f : α → D) (n : Nat) (h : ∀ x, PyData.depth (f x).py ≤ n) (L : List α) : PyData.depth (D.lst (L.map f)).py ≤ n + 1 := by
  have := depth_of f n h L
  simp [D.py, PyData.depth]; omega
theorem fl_Tg (a : Int × Int) : (Tg a).flat = true := rfl
theorem fine_int (a : Int) : (D.int a).fine = true := fine_of rfl (dp_int a)
theorem fine_bl (a : Bool) : (D.bl a).fine = true := fine_of rfl (dp_bl a)
theorem fine_Tg (a : Int × Int) : (Tg a).fine = true := fine_of rfl (dp_Tg a)
theorem fine_tI (L : List Int) : (tIs L).fine = true := fine_of (flats_of _ (fun _ => rfl) L) (dp_tup _ 0 dp_int L)
theorem fine_fI (L : List Int) : (fIs L).fine = true := fine_of (flats_of _ (fun _ => rfl) L) (dp_lst _ 0 dp_int L)
theorem fine_tT (L : List (Int × Int)) : (tT L).fine = true := fine_of (flats_of _ (fun _ => rfl) L) (dp_tup _ 2 dp_Tg L)
theorem fine_lT (L : List (Int × Int)) : (lT L).fine = true := fine_of (flats_of _ (fun _ => rfl) L) (dp_lst _ 2 dp_Tg L)
theorem fine_tB (L : List Bool) : (tB L).fine = true := fine_of (flats_of _ (fun _ => rfl) L) (dp_tup _ 0 dp_bl L)
theorem eqD_of {a b : D} (h1 : a.fine = true) (h2 : b.fine = true) {c : Bool} (h : a.eqb b = c) : eqD a b = some (.bl c) := by
  show (if _ then _ else _) = _
  rw [if_pos ⟨h1, h2⟩, h]
theorem neD_of {a b : D} (h1 : a.fine = true) (h2 : b.fine = true) {c : Bool} (h : a.eqb b = c) : neD a b = some (.bl (!c)) := by
  show (if _ then _ else _) = _
  rw [if_pos ⟨h1, h2⟩, h]
theorem eq_int (a b : Int) : eqD (.int a) (.int b) = some (.bl (decide (a = b))) := eqD_of (fine_int a) (fine_int b) (eqb_int a b)
theorem ne_int (a b : Int) : neD (.int a) (.int b) = some (.bl (!decide (a = b))) := neD_of (fine_int a) (fine_int b) (eqb_int a b)
theorem eq_bl (a b : Bool) : eqD (.bl a) (.bl b) = some (.bl (decide (a = b))) := eqD_of (fine_bl a) (fine_bl b) (eqb_bl a b)
theorem ne_bl (a b : Bool) : neD (.bl a) (.bl b) = some (.bl (!decide (a = b))) := neD_of (fine_bl a) (fine_bl b) (eqb_bl a b)
theorem eq_Tg (a b : Int × Int) : eqD (Tg a) (Tg b) = some (.bl (decide (a = b))) := eqD_of (fine_Tg a) (fine_Tg b) (eqb_Tg a b)
theorem ne_Tg (a b : Int × Int) : neD (Tg a) (Tg b) = some (.bl (!decide (a = b))) := neD_of (fine_Tg a) (fine_Tg b) (eqb_Tg a b)
theorem eq_tI (a b : List Int) : eqD (tIs a) (tIs b) = some (.bl (decide (a = b))) := eqD_of (fine_tI a) (fine_tI b) (by simp only [tIs, D.eqb]; exact eqbs_of _ eqb_int a b)
theorem ne_tI (a b : List Int) : neD (tIs a) (tIs b) = some (.bl (!decide (a = b))) := neD_of (fine_tI a) (fine_tI b) (by simp only [tIs, D.eqb]; exact eqbs_of _ eqb_int a b)
theorem ne_fI (a b : List Int) : neD (fIs a) (fIs b) = some (.bl (!decide (a = b))) := neD_of (fine_fI a) (fine_fI b) (by simp only [fIs, D.eqb]; exact eqbs_of _ eqb_int a b)
theorem ne_lT (a b : List (Int × Int)) : neD (lT a) (lT b) = some (.bl (!decide (a = b))) := neD_of (fine_lT a) (fine_lT b) (by simp only [lT, D.eqb]; exact eqbs_of _ eqb_Tg a b)
theorem ne_tB (a b : List Bool) : neD (tB a) (tB b) = some (.bl (!decide (a = b))) := neD_of (fine_tB a) (fine_tB b) (by simp only [tB, D.eqb]; exact eqbs_of _ eqb_bl a b)
theorem in_tT (b : Bool) (t : Int × Int) (L : List (Int × Int)) : inD b (Tg t) (tT L) = some (.bl (if b then !decide (t ∈ L) else decide (t ∈ L))) := by
  show (if _ then _ else _) = _
  rw [if_pos ⟨fine_Tg t, flats_of _ fl_Tg L⟩, inB_of Tg eqb_Tg]
  cases b <;> simp
theorem in_lT (b : Bool) (t : Int × Int) (L : List (Int × Int)) : inD b (Tg t) (lT L) = some (.bl (if b then !decide (t ∈ L) else decide (t ∈ L))) := by
  show (if _ then _ else _) = _
  rw [if_pos ⟨fine_Tg t, flats_of _ fl_Tg L⟩, inB_of Tg eqb_Tg]
  cases b <;> simp
theorem in_tI (b : Bool) (t : Int) (L : List Int) : inD b (.int t) (tIs L) = some (.bl (if b then !decide (t ∈ L) else decide (t ∈ L))) := by
  show (if _ then _ else _) = _
  rw [if_pos ⟨fine_int t, flats_of _ (fun _ => rfl) L⟩, inB_of D.int eqb_int]
/-! ### parts of lists -/
theorem sIx_in {n d : Nat} {c : Int} (h0 : 0 ≤ c) (h1 : c ≤ n) : HT.sIx n d (some c) = c.toNat := by
  show (if c < 0 then _ else _) = _
  rw [if_neg (by omega)]
  omega
theorem sIx_no {n d : Nat} : HT.sIx n d none = d := rfl
theorem sIx_neg {n d : Nat} {c : Nat} (h0 : 0 < c) : HT.sIx n d (some (-(c : Int))) = n - c := by
  show (if -(c : Int) < 0 then _ else _) = _
  rw [if_pos (by omega)]
  omega
theorem cut_pre {α : Type} (f : α → D) {C : List α} {k : Nat} (h : k ≤ C.length) : cut (C.map f) none (some (k : Int)) = (C.take k).map f := by
  simp only [cut, List.length_map, sIx_in (n := C.length) (d := C.length) (c := (k : Int)) (by omega) (by omega), sIx_no, List.drop_zero, Nat.sub_zero, Int.toNat_natCast, List.map_take]
theorem cut_suf {α : Type} (f : α → D) {C : List α} {k : Nat} (h : k ≤ C.length) : cut (C.map f) (some (k : Int)) none = (C.drop k).map f := by
  simp only [cut, List.length_map, sIx_in (n := C.length) (d := 0) (c := (k : Int)) (by omega) (by omega), sIx_no, Int.toNat_natCast, List.map_drop]
  rw [List.take_of_length_le (by simp)]
theorem cut_last {α : Type} (f : α → D) {C : List α} {k : Nat} (h : 0 < k) : cut (C.map f) (some (-(k : Int))) none = (C.drop (C.length - k)).map f := by
  simp only [cut, List.length_map, sIx_neg h, sIx_no, List.map_drop]
  rw [List.take_of_length_le (by simp)]
theorem ix_nat {α : Type} (f : α → D) {C : List α} {k : Nat} (h : k < C.length) : L2.atI (C.map f) (k : Int) = some (f C[k]) := by
  simp [L2.atI, L2.ixN, h]
theorem near_ok {i : Int} (h0 : -1000000 ≤ i) (h1 : i ≤ 1000000) : near i = true := by simp [near]; omega
theorem s64 {a : Int} (h0 : -(2 ^ 64) < a) (h1 : a < 2 ^ 64) : small64 a = true := by simp [small64]; omega
theorem mod_lt {a b : Int} (h : 0 < b) : 0 ≤ a % b ∧ a % b < b := ⟨Int.emod_nonneg _ (by omega), Int.emod_lt_of_pos _ h⟩
def rg (n : Nat) : List Int := (List.range n).map Int.ofNat
theorem rngL_rg (n : Nat) : rngL 0 1 n = (rg n).map D.int := by simp [rngL, rg]
def enL {α : Type} : Nat → List α → List (Nat × α)
  | _, [] => []
  | k, x :: C => (k, x) :: enL (k + 1) C
theorem enumD_map {α : Type} (f : α → D) : ∀ (k : Nat) (C : List α), enumD k (C.map f) = (enL k C).map fun p => .tup [.int p.1, f p.2]
  | _, [] => rfl
  | k, x :: C => by simp [enumD, enL, enumD_map f (k + 1) C]
theorem enL_mem {α : Type} {C : List α} {k : Nat} {p : Nat × α} (h : p ∈ enL k C) : ∃ i, p.1 = k + i ∧ C[i]? = some p.2 := by
  induction C generalizing k with
  | nil => cases h
  | cons x C ih =>
    rcases List.mem_cons.mp h with rfl | h
    · exact ⟨0, rfl, rfl⟩
    · obtain ⟨i, h1, h2⟩ := ih h
      exact ⟨i + 1, by omega, by simpa using h2⟩
theorem enL_len {α : Type} (C : List α) : ∀ k, (enL k C).length = C.length := by
  induction C with
  | nil => intro k; rfl
  | cons x C ih => intro k; simp [enL, ih]
theorem blsD_map {α : Type} (p : α → Bool) : ∀ L : List α, blsD (L.map fun x => .bl (p x)) = some (L.map p)
  | [] => rfl
  | x :: L => by simp [blsD, blsD_map p L]
theorem ints_map : ∀ L : List Int, intsD (L.map D.int) = some L
  | [] => rfl
  | x :: L => by simp [intsD, ints_map L]
theorem pairs_map : ∀ L : List (Int × Int), pairsD (L.map Tg) = some L
  | [] => rfl
  | x :: L => by
    show (pairsD (L.map Tg)).map _ = _
    rw [pairs_map L]; rfl
theorem sq_tIs (C : List Int) : seqOf (tIs C) = some (C.map D.int) := rfl
theorem isq_tIs (C : List Int) : isSq (tIs C) = some (C.map D.int) := rfl
theorem len_tIs (C : List Int) : lenD [tIs C] = some (.int C.length) := by show some (D.int ((C.map D.int).length : Nat)) = _; rw [List.length_map]
theorem en_tIs (C : List Int) : enum1 [tIs C] = some ((enL 0 C).map fun p => .tup [.int p.1, D.int p.2]) := by show some (enumD 0 (C.map D.int)) = _; rw [enumD_map]
theorem tup_tIs (C : List Int) : tupleD [tIs C] = some (.tup (C.map D.int)) := rfl
theorem lst_tIs (C : List Int) : listD [tIs C] = some (.lst (C.map D.int)) := rfl
theorem sq_fIs (C : List Int) : seqOf (fIs C) = some (C.map D.int) := rfl
theorem isq_fIs (C : List Int) : isSq (fIs C) = some (C.map D.int) := rfl
theorem len_fIs (C : List Int) : lenD [fIs C] = some (.int C.length) := by show some (D.int ((C.map D.int).length : Nat)) = _; rw [List.length_map]
theorem en_fIs (C : List Int) : enum1 [fIs C] = some ((enL 0 C).map fun p => .tup [.int p.1, D.int p.2]) := by show some (enumD 0 (C.map D.int)) = _; rw [enumD_map]
theorem tup_fIs (C : List Int) : tupleD [fIs C] = some (.tup (C.map D.int)) := rfl
theorem lst_fIs (C : List Int) : listD [fIs C] = some (.lst (C.map D.int)) := rfl
theorem sq_tT (C : List (Int × Int)) : seqOf (tT C) = some (C.map Tg) := rfl
theorem isq_tT (C : List (Int × Int)) : isSq (tT C) = some (C.map Tg) := rfl
theorem len_tT (C : List (Int × Int)) : lenD [tT C] = some (.int C.length) := by show some (D.int ((C.map Tg).length : Nat)) = _; rw [List.length_map]
theorem en_tT (C : List (Int × Int)) : enum1 [tT C] = some ((enL 0 C).map fun p => .tup [.int p.1, Tg p.2]) := by show some (enumD 0 (C.map Tg)) = _; rw [enumD_map]
theorem tup_tT (C : List (Int × Int)) : tupleD [tT C] = some (.tup (C.map Tg)) := rfl
theorem lst_tT (C : List (Int × Int)) : listD [tT C] = some (.lst (C.map Tg)) := rfl
theorem sq_lT (C : List (Int × Int)) : seqOf (lT C) = some (C.map Tg) := rfl
theorem isq_lT (C : List (Int × Int)) : isSq (lT C) = some (C.map Tg) := rfl
theorem len_lT (C : List (Int × Int)) : lenD [lT C] = some (.int C.length) := by show some (D.int ((C.map Tg).length : Nat)) = _; rw [List.length_map]
theorem en_lT (C : List (Int × Int)) : enum1 [lT C] = some ((enL 0 C).map fun p => .tup [.int p.1, Tg p.2]) := by show some (enumD 0 (C.map Tg)) = _; rw [enumD_map]
theorem tup_lT (C : List (Int × Int)) : tupleD [lT C] = some (.tup (C.map Tg)) := rfl
theorem lst_lT (C : List (Int × Int)) : listD [lT C] = some (.lst (C.map Tg)) := rfl
theorem sq_tB (C : List Bool) : seqOf (tB C) = some (C.map D.bl) := rfl
theorem isq_tB (C : List Bool) : isSq (tB C) = some (C.map D.bl) := rfl
theorem len_tB (C : List Bool) : lenD [tB C] = some (.int C.length) := by show some (D.int ((C.map D.bl).length : Nat)) = _; rw [List.length_map]
theorem en_tB (C : List Bool) : enum1 [tB C] = some ((enL 0 C).map fun p => .tup [.int p.1, D.bl p.2]) := by show some (enumD 0 (C.map D.bl)) = _; rw [enumD_map]
theorem tup_tB (C : List Bool) : tupleD [tB C] = some (.tup (C.map D.bl)) := rfl
theorem lst_tB (C : List Bool) : listD [tB C] = some (.lst (C.map D.bl)) := rfl
theorem sq_lB (C : List Bool) : seqOf (lB C) = some (C.map D.bl) := rfl
theorem isq_lB (C : List Bool) : isSq (lB C) = some (C.map D.bl) := rfl
theorem len_lB (C : List Bool) : lenD [lB C] = some (.int C.length) := by show some (D.int ((C.map D.bl).length : Nat)) = _; rw [List.length_map]
theorem en_lB (C : List Bool) : enum1 [lB C] = some ((enL 0 C).map fun p => .tup [.int p.1, D.bl p.2]) := by show some (enumD 0 (C.map D.bl)) = _; rw [enumD_map]
theorem tup_lB (C : List Bool) : tupleD [lB C] = some (.tup (C.map D.bl)) := rfl
theorem lst_lB (C : List Bool) : listD [lB C] = some (.lst (C.map D.bl)) := rfl
theorem Tg_0 (p : Int × Int) : ixD (Tg p) (.int 0) = some (.int p.1) := rfl
theorem Tg_1 (p : Int × Int) : ixD (Tg p) (.int 1) = some (.int p.2) := rfl
theorem f_tIs (C : List Int) : D.tup (C.map D.int) = tIs C := rfl
theorem f_fIs (C : List Int) : D.lst (C.map D.int) = fIs C := rfl
theorem f_tT (C : List (Int × Int)) : D.tup (C.map Tg) = tT C := rfl
theorem f_lT (C : List (Int × Int)) : D.lst (C.map Tg) = lT C := rfl
theorem f_tB (C : List Bool) : D.tup (C.map D.bl) = tB C := rfl
theorem f_lB (C : List Bool) : D.lst (C.map D.bl) = lB C := rfl
theorem sq_tup (C : List D) : seqOf (.tup C) = some C := rfl
theorem sq_lst (C : List D) : seqOf (.lst C) = some C := rfl
theorem isq_tup (C : List D) : isSq (.tup C) = some C := rfl
theorem isq_lst (C : List D) : isSq (.lst C) = some C := rfl
theorem len_tup (C : List D) : lenD [.tup C] = some (.int C.length) := rfl
theorem len_lst (C : List D) : lenD [.lst C] = some (.int C.length) := rfl
theorem add_int (a b : Int) : addD (.int a) (.int b) = some (.int (a + b)) := rfl
theorem pre_tIs {C : List Int} {k : Nat} (h : k ≤ C.length) : cutD (tIs C) none (some (k : Int)) = some (tIs (C.take k)) := by show some (D.tup (cut (C.map D.int) _ _)) = _; rw [cut_pre D.int h]; rfl
theorem suf_tIs {C : List Int} {k : Nat} (h : k ≤ C.length) : cutD (tIs C) (some (k : Int)) none = some (tIs (C.drop k)) := by show some (D.tup (cut (C.map D.int) _ _)) = _; rw [cut_suf D.int h]; rfl
theorem last_tIs {C : List Int} {k : Nat} (h : 0 < k) : cutD (tIs C) (some (-(k : Int))) none = some (tIs (C.drop (C.length - k))) := by show some (D.tup (cut (C.map D.int) _ _)) = _; rw [cut_last D.int h]; rfl
theorem ix_tIs {C : List Int} {k : Nat} (h : k < C.length) : ixD (tIs C) (.int (k : Int)) = some (D.int C[k]) := by show L2.atI (C.map D.int) _ = _; rw [ix_nat D.int h]
theorem add_tIs {a b : List Int} (h : a.length + b.length ≤ 1000000) : addD (tIs a) (tIs b) = some (tIs (a ++ b)) := by
  show (if (a.map D.int).length + (b.map D.int).length ≤ 1000000 then some (D.tup (a.map D.int ++ b.map D.int)) else none) = _
  rw [if_pos (by simpa using h), ← List.map_append]; rfl
theorem add1_tIs {a : List Int} {z : Int} (h : a.length + 1 ≤ 1000000) : addD (tIs a) (.tup [.int z]) = some (tIs (a ++ [z])) := add_tIs (b := [z]) h
theorem add0_tIs {a : List Int} (h : a.length ≤ 1000000) : addD (tIs a) (.tup []) = some (tIs a) := by
  have := add_tIs (a := a) (b := []) (by simpa using h)
  rw [List.append_nil] at this
  exact this
theorem pre_fIs {C : List Int} {k : Nat} (h : k ≤ C.length) : cutD (fIs C) none (some (k : Int)) = some (fIs (C.take k)) := by show some (D.lst (cut (C.map D.int) _ _)) = _; rw [cut_pre D.int h]; rfl
theorem suf_fIs {C : List Int} {k : Nat} (h : k ≤ C.length) : cutD (fIs C) (some (k : Int)) none = some (fIs (C.drop k)) := by show some (D.lst (cut (C.map D.int) _ _)) = _; rw [cut_suf D.int h]; rfl
theorem last_fIs {C : List Int} {k : Nat} (h : 0 < k) : cutD (fIs C) (some (-(k : Int))) none = some (fIs (C.drop (C.length - k))) := by show some (D.lst (cut (C.map D.int) _ _)) = _; rw [cut_last D.int h]; rfl
theorem ix_fIs {C : List Int} {k : Nat} (h : k < C.length) : ixD (fIs C) (.int (k : Int)) = some (D.int C[k]) := by show L2.atI (C.map D.int) _ = _; rw [ix_nat D.int h]
theorem add_fIs {a b : List Int} (h : a.length + b.length ≤ 1000000) : addD (fIs a) (fIs b) = some (fIs (a ++ b)) := by
  show (if (a.map D.int).length + (b.map D.int).length ≤ 1000000 then some (D.lst (a.map D.int ++ b.map D.int)) else none) = _
  rw [if_pos (by simpa using h), ← List.map_append]; rfl
theorem add1_fIs {a : List Int} {z : Int} (h : a.length + 1 ≤ 1000000) : addD (fIs a) (.lst [.int z]) = some (fIs (a ++ [z])) := add_fIs (b := [z]) h
theorem add0_fIs {a : List Int} (h : a.length ≤ 1000000) : addD (fIs a) (.lst []) = some (fIs a) := by
  have := add_fIs (a := a) (b := []) (by simpa using h)
  rw [List.append_nil] at this
  exact this
theorem pre_tT {C : List (Int × Int)} {k : Nat} (h : k ≤ C.length) : cutD (tT C) none (some (k : Int)) = some (tT (C.take k)) := by show some (D.tup (cut (C.map Tg) _ _)) = _; rw [cut_pre Tg h]; rfl
theorem suf_tT {C : List (Int × Int)} {k : Nat} (h : k ≤ C.length) : cutD (tT C) (some (k : Int)) none = some (tT (C.drop k)) := by show some (D.tup (cut (C.map Tg) _ _)) = _; rw [cut_suf Tg h]; rfl
theorem last_tT {C : List (Int × Int)} {k : Nat} (h : 0 < k) : cutD (tT C) (some (-(k : Int))) none = some (tT (C.drop (C.length - k))) := by show some (D.tup (cut (C.map Tg) _ _)) = _; rw [cut_last Tg h]; rfl
theorem ix_tT {C : List (Int × Int)} {k : Nat} (h : k < C.length) : ixD (tT C) (.int (k : Int)) = some (Tg C[k]) := by show L2.atI (C.map Tg) _ = _; rw [ix_nat Tg h]
theorem add_tT {a b : List (Int × Int)} (h : a.length + b.length ≤ 1000000) : addD (tT a) (tT b) = some (tT (a ++ b)) := by
  show (if (a.map Tg).length + (b.map Tg).length ≤ 1000000 then some (D.tup (a.map Tg ++ b.map Tg)) else none) = _
  rw [if_pos (by simpa using h), ← List.map_append]; rfl
theorem add1_tT {a : List (Int × Int)} {z : (Int × Int)} (h : a.length + 1 ≤ 1000000) : addD (tT a) (.tup [Tg z]) = some (tT (a ++ [z])) := add_tT (b := [z]) h
theorem add0_tT {a : List (Int × Int)} (h : a.length ≤ 1000000) : addD (tT a) (.tup []) = some (tT a) := by
  have := add_tT (a := a) (b := []) (by simpa using h)
  rw [List.append_nil] at this
  exact this
theorem pre_lT {C : List (Int × Int)} {k : Nat} (h : k ≤ C.length) : cutD (lT C) none (some (k : Int)) = some (lT (C.take k)) := by show some (D.lst (cut (C.map Tg) _ _)) = _; rw [cut_pre Tg h]; rfl
theorem suf_lT {C : List (Int × Int)} {k : Nat} (h : k ≤ C.length) : cutD (lT C) (some (k : Int)) none = some (lT (C.drop k)) := by show some (D.lst (cut (C.map Tg) _ _)) = _; rw [cut_suf Tg h]; rfl
theorem last_lT {C : List (Int × Int)} {k : Nat} (h : 0 < k) : cutD (lT C) (some (-(k : Int))) none = some (lT (C.drop (C.length - k))) := by show some (D.lst (cut (C.map Tg) _ _)) = _; rw [cut_last Tg h]; rfl
theorem ix_lT {C : List (Int × Int)} {k : Nat} (h : k < C.length) : ixD (lT C) (.int (k : Int)) = some (Tg C[k]) := by show L2.atI (C.map Tg) _ = _; rw [ix_nat Tg h]
theorem add_lT {a b : List (Int × Int)} (h : a.length + b.length ≤ 1000000) : addD (lT a) (lT b) = some (lT (a ++ b)) := by
  show (if (a.map Tg).length + (b.map Tg).length ≤ 1000000 then some (D.lst (a.map Tg ++ b.map Tg)) else none) = _
  rw [if_pos (by simpa using h), ← List.map_append]; rfl
theorem add1_lT {a : List (Int × Int)} {z : (Int × Int)} (h : a.length + 1 ≤ 1000000) : addD (lT a) (.lst [Tg z]) = some (lT (a ++ [z])) := add_lT (b := [z]) h
theorem add0_lT {a : List (Int × Int)} (h : a.length ≤ 1000000) : addD (lT a) (.lst []) = some (lT a) := by
  have := add_lT (a := a) (b := []) (by simpa using h)
  rw [List.append_nil] at this
  exact this
theorem pre_tB {C : List Bool} {k : Nat} (h : k ≤ C.length) : cutD (tB C) none (some (k : Int)) = some (tB (C.take k)) := by show some (D.tup (cut (C.map D.bl) _ _)) = _; rw [cut_pre D.bl h]; rfl
theorem suf_tB {C : List Bool} {k : Nat} (h : k ≤ C.length) : cutD (tB C) (some (k : Int)) none = some (tB (C.drop k)) := by show some (D.tup (cut (C.map D.bl) _ _)) = _; rw [cut_suf D.bl h]; rfl
theorem last_tB {C : List Bool} {k : Nat} (h : 0 < k) : cutD (tB C) (some (-(k : Int))) none = some (tB (C.drop (C.length - k))) := by show some (D.tup (cut (C.map D.bl) _ _)) = _; rw [cut_last D.bl h]; rfl
theorem ix_tB {C : List Bool} {k : Nat} (h : k < C.length) : ixD (tB C) (.int (k : Int)) = some (D.bl C[k]) := by show L2.atI (C.map D.bl) _ = _; rw [ix_nat D.bl h]
theorem add_tB {a b : List Bool} (h : a.length + b.length ≤ 1000000) : addD (tB a) (tB b) = some (tB (a ++ b)) := by
  show (if (a.map D.bl).length + (b.map D.bl).length ≤ 1000000 then some (D.tup (a.map D.bl ++ b.map D.bl)) else none) = _
  rw [if_pos (by simpa using h), ← List.map_append]; rfl
theorem add1_tB {a : List Bool} {z : Bool} (h : a.length + 1 ≤ 1000000) : addD (tB a) (.tup [.bl z]) = some (tB (a ++ [z])) := add_tB (b := [z]) h
theorem add0_tB {a : List Bool} (h : a.length ≤ 1000000) : addD (tB a) (.tup []) = some (tB a) := by
  have := add_tB (a := a) (b := []) (by simpa using h)
  rw [List.append_nil] at this
  exact this
theorem pre_lB {C : List Bool} {k : Nat} (h : k ≤ C.length) : cutD (lB C) none (some (k : Int)) = some (lB (C.take k)) := by show some (D.lst (cut (C.map D.bl) _ _)) = _; rw [cut_pre D.bl h]; rfl
theorem suf_lB {C : List Bool} {k : Nat} (h : k ≤ C.length) : cutD (lB C) (some (k : Int)) none = some (lB (C.drop k)) := by show some (D.lst (cut (C.map D.bl) _ _)) = _; rw [cut_suf D.bl h]; rfl
theorem last_lB {C : List Bool} {k : Nat} (h : 0 < k) : cutD (lB C) (some (-(k : Int))) none = some (lB (C.drop (C.length - k))) := by show some (D.lst (cut (C.map D.bl) _ _)) = _; rw [cut_last D.bl h]; rfl
theorem ix_lB {C : List Bool} {k : Nat} (h : k < C.length) : ixD (lB C) (.int (k : Int)) = some (D.bl C[k]) := by show L2.atI (C.map D.bl) _ = _; rw [ix_nat D.bl h]
theorem add_lB {a b : List Bool} (h : a.length + b.length ≤ 1000000) : addD (lB a) (lB b) = some (lB (a ++ b)) := by
  show (if (a.map D.bl).length + (b.map D.bl).length ≤ 1000000 then some (D.lst (a.map D.bl ++ b.map D.bl)) else none) = _
  rw [if_pos (by simpa using h), ← List.map_append]; rfl
theorem add1_lB {a : List Bool} {z : Bool} (h : a.length + 1 ≤ 1000000) : addD (lB a) (.lst [.bl z]) = some (lB (a ++ [z])) := add_lB (b := [z]) h
theorem add0_lB {a : List Bool} (h : a.length ≤ 1000000) : addD (lB a) (.lst []) = some (lB a) := by
  have := add_lB (a := a) (b := []) (by simpa using h)
  rw [List.append_nil] at this
  exact this
theorem mk_Tg (a b : Int) : D.tup [.int a, .int b] = Tg (a, b) := rfl
theorem vals_star : ∀ (ds : List D) (os : List Op) (es : List D), vals os = some es → vals (ds.map Op.v ++ os) = some (ds ++ es)
  | [], os, es, h => h
  | d :: ds, os, es, h => by
    show (vals (ds.map Op.v ++ os)).map _ = _
    rw [vals_star ds os es h]; rfl
theorem vals_st1 (ds : List D) (e : D) : vals (ds.map Op.v ++ [.v e]) = some (ds ++ [e]) := vals_star ds _ _ rfl
theorem vals_st0 (ds : List D) : vals (ds.map Op.v) = some ds := by
  have := vals_star ds [] [] rfl
  simpa using this
theorem vals_c1 {α : Type} (f : α → D) (C : List α) (e : D) : vals (C.map (Op.v ∘ f) ++ [.v e]) = some (C.map f ++ [e]) := by rw [← List.map_map]; exact vals_st1 _ _
theorem vals_c0 {α : Type} (f : α → D) (C : List α) : vals (C.map (Op.v ∘ f)) = some (C.map f) := by rw [← List.map_map]; exact vals_st0 _
theorem le_int (a b : Int) : leD (.int a) (.int b) = some (.bl (decide (a ≤ b))) := rfl
theorem lt_int (a b : Int) : ltD (.int a) (.int b) = some (.bl (decide (a < b))) := rfl
theorem ge_int (a b : Int) : geD (.int a) (.int b) = some (.bl (decide (b ≤ a))) := rfl
theorem gt_int (a b : Int) : gtD (.int a) (.int b) = some (.bl (decide (b < a))) := rfl
theorem any_bl {α : Type} (p : α → Bool) (L : List α) : anyD [.lst (L.map fun x => .bl (p x))] = some (.bl (L.any p)) := by simp [anyD, lsOf, blsD_map]
theorem all_bl {α : Type} (p : α → Bool) (L : List α) : allD [.lst (L.map fun x => .bl (p x))] = some (.bl (L.all p)) := by simp [allD, lsOf, blsD_map]
theorem ix_t0 (a : D) (l : List D) : ixD (.tup (a :: l)) (.int 0) = some a := by
  have h : (0 : Int) < ((a :: l).length : Int) := by simp only [List.length_cons]; omega
  show L2.atI _ _ = _
  unfold L2.atI L2.ixN
  rw [if_pos (by omega), if_pos h]; rfl
theorem ix_t1 (a b : D) (l : List D) : ixD (.tup (a :: b :: l)) (.int 1) = some b := by
  have h : (1 : Int) < ((a :: b :: l).length : Int) := by simp only [List.length_cons]; omega
  show L2.atI _ _ = _
  unfold L2.atI L2.ixN
  rw [if_pos (by omega), if_pos h]; rfl
theorem ix_t2 (a b c : D) (l : List D) : ixD (.tup (a :: b :: c :: l)) (.int 2) = some c := by
  have h : (2 : Int) < ((a :: b :: c :: l).length : Int) := by simp only [List.length_cons]; omega
  show L2.atI _ _ = _
  unfold L2.atI L2.ixN
  rw [if_pos (by omega), if_pos h]; rfl
def lgt (L : List Int) (k : Int) : Int := L[k.toNat]?.getD 0
theorem ixi_tIs {L : List Int} {k : Int} (h0 : 0 ≤ k) (h1 : k < L.length) : ixD (tIs L) (.int k) = some (.int (lgt L k)) := by
  have hk : k.toNat < L.length := by omega
  have := ix_tIs (C := L) (k := k.toNat) hk
  rw [show ((k.toNat : Nat) : Int) = k by omega] at this
  rw [this]; simp [lgt, hk]
theorem cnt_tT {ρ : Env} {i j : Nat} {C : List (Int × Int)} {p : Int × Int} (hi : ρ[i]? = some (sv (tT C))) (hj : ρ[j]? = some (sv (Tg p))) : dTM countD (oPl i) (aCons (oPl j) aNil) ρ = .ok (ρ, .int (C.countP fun z => decide (z = p))) := by
  have e : countD (C.map Tg) [Tg p] = some (.int (C.countP fun z => decide (z = p))) := by
    show (if _ then _ else _) = _
    rw [if_pos ⟨fine_Tg p, flats_of _ fl_Tg C⟩, List.countP_map]
    simp only [Function.comp_def, eqb_Tg]
  unfold tT at hi
  simp [dTM, oPl, hi, hj, R.bind, argB, aCons, aNil, resAll, res, bVal, e]
/-- the places of p, ascending -/
def idx (C : List (Int × Int)) (p : Int × Int) : List Nat := (List.range C.length).filter fun i => decide (C[i]? = some p)
theorem idx_enL (p : Int × Int) : ∀ (C : List (Int × Int)) (k : Nat), ((enL k C).filter fun q => decide (q.2 = p)).map (·.1) = (idx C p).map (· + k)
  | [], _ => rfl
  | x :: C, k => by
    have ih := idx_enL p C (k + 1)
    have e : idx (x :: C) p = (if x = p then [0] else []) ++ (idx C p).map (· + 1) := by
      unfold idx
      rw [List.length_cons, List.range_succ_eq_map, List.filter_cons, List.filter_map]
      have : ((fun i => decide ((x :: C)[i]? = some p)) ∘ Nat.succ) = fun i => decide (C[i]? = some p) := by funext i; simp
      rw [this]
      by_cases h : x = p <;> simp [h]
    rw [e]
    by_cases h : x = p
    · simp only [enL, List.filter_cons, h, decide_true, if_true, List.map_cons, ih, List.map_append, List.map_map, List.map_nil, List.cons_append, List.nil_append]
      simp [Function.comp_def]
      intro a _
      omega
    · simp only [enL, List.filter_cons, h, decide_false, if_false, ih, List.map_append, List.map_map, List.map_nil, List.nil_append, Bool.false_eq_true]
      simp [Function.comp_def]
      intro a _
      omega
theorem idx_count (C : List (Int × Int)) (p : Int × Int) : C.countP (fun z => decide (z = p)) = (idx C p).length := by
  have h := congrArg List.length (idx_enL p C 0)
  rw [List.length_map, List.length_map] at h
  rw [← h]
  have : ∀ (C : List (Int × Int)) (k : Nat), C.countP (fun z => decide (z = p)) = ((enL k C).filter fun q => decide (q.2 = p)).length := by
    intro C
    induction C with
    | nil => intro k; rfl
    | cons x C ih =>
      intro k
      rw [List.countP_cons, ih (k + 1)]
      by_cases h : x = p <;> simp [enL, h]
  exact this C 0
theorem idx_mem (C : List (Int × Int)) (p : Int × Int) : idx C p = [] ↔ p ∉ C := by
  unfold idx
  rw [List.filter_eq_nil_iff]
  constructor
  · intro h hp
    obtain ⟨i, hi, e⟩ := List.mem_iff_getElem.mp hp
    have := h i (List.mem_range.mpr hi)
    simp [hi, e] at this
  · intro h i hi
    have hi := List.mem_range.mp hi
    simp only [decide_eq_true_eq, hi, List.getElem?_eq_getElem, Option.some.injEq]
    exact fun e => h (e ▸ List.getElem_mem hi)
theorem idx_asc (C : List (Int × Int)) (p : Int × Int) : (idx C p).Pairwise (· < ·) := List.Pairwise.filter _ List.pairwise_lt_range
theorem max_asc : ∀ (ns : List Nat) (n : Nat), (n :: ns).Pairwise (· < ·) → maxI (n : Int) (ns.map Int.ofNat) = (((n :: ns).getLast (by simp) : Nat) : Int)
  | [], n, _ => rfl
  | m :: ns, n, h => by
    rw [List.pairwise_cons] at h
    have h1 := h.1 m List.mem_cons_self
    show maxI (if Int.ofNat m > (n : Int) then Int.ofNat m else n) (ns.map Int.ofNat) = _
    rw [if_pos (by show (n : Int) < (m : Int); omega)]
    have := max_asc ns m h.2
    rw [List.getLast_cons (by simp)]
    exact this
theorem max_idx {l : List Nat} (h : l.Pairwise (· < ·)) {z : Nat} (hz : l.getLast? = some z) : maxD [.lst (l.map fun i : Nat => D.int (i : Int))] = some (.int z) := by
  cases l with
  | nil => cases hz
  | cons n ns =>
    have e : (n :: ns).map (fun i : Nat => D.int (i : Int)) = ((n :: ns).map Int.ofNat).map D.int := by simp
    rw [e]
    rw [show maxD [.lst (((n :: ns).map Int.ofNat).map D.int)] = ((intsD (((n :: ns).map Int.ofNat).map D.int)).bind maxL).map .int from rfl, ints_map]
    simp only [Option.bind_some, List.map_cons, maxL, Option.map_some]
    have := max_asc ns n h
    rw [show Int.ofNat n = (n : Int) from rfl, this]
    rw [List.getLast?_eq_some_getLast (by simp)] at hz
    simp at hz
    simp [hz]
theorem ix_last {l : List Nat} {z : Nat} (hz : l.getLast? = some z) : ixD (.lst (l.map fun i : Nat => D.int (i : Int))) (.int (-1)) = some (.int z) := by
  have hl : 0 < l.length := by cases l with | nil => cases hz | cons n ns => simp
  show L2.atI _ _ = _
  unfold L2.atI L2.ixN
  rw [List.length_map, if_neg (by omega), if_pos (by omega)]
  rw [List.getLast?_eq_getElem?] at hz
  have : (-1 + (l.length : Int)).toNat = l.length - 1 := by omega
  simp [this, hz]
theorem ne_nats (l : List Nat) : neD (.lst (l.map fun i : Nat => D.int (i : Int))) (.lst []) = some (.bl (!decide (l = []))) := by
  refine neD_of (fine_of (d := .lst (l.map fun i : Nat => D.int (i : Int))) (flats_of (fun i : Nat => D.int (i : Int)) (fun _ => rfl) l) (dp_lst (fun i : Nat => D.int (i : Int)) 0 (fun i => dp_int _) l)) (by kernel_rfl) ?_
  cases l <;> simp [D.eqb, D.eqbs]
theorem sort_lT {C : List (Int × Int)} (h : C ≠ []) : sortedD [lT C] = some (lT (sortP C)) := by
  have h1 : intsD (C.map Tg) = none := by
    cases C with
    | nil => exact absurd rfl h
    | cons x C => rfl
  simp only [sortedD, lT, lstOf, Option.bind_some, h1, pairs_map, Option.map_some]
  rfl
/-! ### statements -/
theorem seq_nx {a b : DSn} {ρ ρ' : Env} (h : a ρ = .ok (ρ', .nx)) : dSeq a b ρ = b ρ' := by simp [dSeq, h, R.bind]
theorem or_no {a b : DTn} {ρ : Env} (ha : a ρ = .ok (ρ, false)) (hb : b ρ = .ok (ρ, false)) : tOrD a b ρ = .ok (ρ, false) := by simp [tOrD, ha, hb, R.bind]
theorem and_no {a b : DTn} {ρ : Env} (g : Bool) (ha : a ρ = .ok (ρ, g)) (hb : g = true → b ρ = .ok (ρ, false)) : tAndD a b ρ = .ok (ρ, false) := by
  cases g
  · simp [tAndD, ha, R.bind]
  · simp [tAndD, ha, hb, R.bind]
theorem tand_b {a b : DTn} {ρ : Env} (g k : Bool) (ha : a ρ = .ok (ρ, g)) (hb : g = true → b ρ = .ok (ρ, k)) : tAndD a b ρ = .ok (ρ, g && k) := by
  cases g
  · simp [tAndD, ha, R.bind]
  · simp [tAndD, ha, hb, R.bind]
theorem tor_b {a b : DTn} {ρ : Env} (g k : Bool) (ha : a ρ = .ok (ρ, g)) (hb : g = false → b ρ = .ok (ρ, k)) : tOrD a b ρ = .ok (ρ, g || k) := by
  cases g
  · simp [tOrD, ha, hb, R.bind]
  · simp [tOrD, ha, R.bind]
theorem not_no {a : DTn} {ρ : Env} (ha : a ρ = .ok (ρ, true)) : tNotD a ρ = .ok (ρ, false) := by simp [tNotD, ha, R.bind]
theorem not_b {a : DTn} {ρ : Env} {b : Bool} (ha : a ρ = .ok (ρ, b)) : tNotD a ρ = .ok (ρ, !b) := by simp [tNotD, ha, R.bind]
theorem ite_no {t : DTn} {b : DSn} {ρ : Env} (ha : t ρ = .ok (ρ, false)) : dIte t b (dEnd .nx) ρ = .ok (ρ, .nx) := by simp [dIte, ha, R.bind, dEnd]
theorem ite_t {t : DTn} {a b : DSn} {ρ : Env} (ha : t ρ = .ok (ρ, true)) : dIte t a b ρ = a ρ := by simp [dIte, ha, R.bind]
theorem ite_f {t : DTn} {a b : DSn} {ρ : Env} (ha : t ρ = .ok (ρ, false)) : dIte t a b ρ = b ρ := by simp [dIte, ha, R.bind]
theorem any_of {o : DOn} {ρ0 ρ : Env} {α : Type} {L : List α} (p : α → Bool) (h : o ρ0 = .ok (ρ, .fr (.lst (L.map fun t => D.bl (p t))))) : dL anyD (aCons o aNil) ρ0 = .ok (ρ, .bl (L.any p)) := by
  simp [dL, aCons, aNil, h, R.bind, resAll, res, ofO, tD_lst, anyD, lsOf, blsD_map]
theorem all_of {o : DOn} {ρ0 ρ : Env} {α : Type} {L : List α} (p : α → Bool) (h : o ρ0 = .ok (ρ, .fr (.lst (L.map fun t => D.bl (p t))))) : dL allD (aCons o aNil) ρ0 = .ok (ρ, .bl (L.all p)) := by
  simp [dL, aCons, aNil, h, R.bind, resAll, res, ofO, tD_lst, allD, lsOf, blsD_map]
/-! ### loops -/
theorem fl_inv {g : D → Env → Option Env} {body : DSn} (I : Env → Prop) : ∀ (ds : List D), (∀ d ∈ ds, ∀ ρ, I ρ → ∃ ρ1 ρ2, g d ρ = some ρ1 ∧ body ρ1 = .ok (ρ2, .nx) ∧ I ρ2) → ∀ ρ, I ρ → ∃ ρ', fl g body ds ρ = .ok (ρ', .nx) ∧ I ρ'
  | [], _, ρ, h => ⟨ρ, rfl, h⟩
  | d :: ds, h, ρ, hi => by
    obtain ⟨ρ1, ρ2, h1, h2, h3⟩ := h d List.mem_cons_self ρ hi
    obtain ⟨ρ', h4, h5⟩ := fl_inv I ds (fun x hx => h x (List.mem_cons_of_mem _ hx)) ρ2 h3
    exact ⟨ρ', by simp [fl, ofO, h1, h2, h4, R.bind], h5⟩
/-- a loop that leaves at the first x with p -/
theorem fl_find {α : Type} {g : D → Env → Option Env} {body : DSn} (f : α → D) (p : α → Bool) (r : α → D) (I : Env → Prop) : ∀ (L : List α),
    (∀ x ∈ L, ∀ ρ, I ρ → ∃ ρ1 ρ2, g (f x) ρ = some ρ1 ∧ I ρ2 ∧ body ρ1 = .ok (ρ2, if p x then .rt (r x) else .nx)) → ∀ ρ, I ρ →
    ∃ ρ', I ρ' ∧ fl g body (L.map f) ρ = .ok (ρ', match L.find? p with | some x => .rt (r x) | none => .nx)
  | [], _, ρ, h => ⟨ρ, h, rfl⟩
  | x :: L, h, ρ, hi => by
    obtain ⟨ρ1, ρ2, h1, h2, h3⟩ := h x List.mem_cons_self ρ hi
    cases e : p x with
    | true =>
      rw [e] at h3
      exact ⟨ρ2, h2, by simp [fl, ofO, h1, h3, e, R.bind]⟩
    | false =>
      rw [e] at h3
      obtain ⟨ρ', h4, h5⟩ := fl_find f p r I L (fun y hy => h y (List.mem_cons_of_mem _ hy)) ρ2 h2
      exact ⟨ρ', h4, by simp [fl, ofO, h1, h3, h5, e, R.bind]⟩
/-- a loop over enumerate that leaves at the first with p; what holds of the frame goes with the place -/
theorem fl_enum {α : Type} {g : D → Env → Option Env} {body : DSn} (f : Nat × α → D) (p : Nat × α → Bool) (r : Nat × α → D) (I : Nat → Env → Prop) : ∀ (C : List α) (k : Nat),
    (∀ q ∈ enL k C, ∀ ρ, I q.1 ρ → ∃ ρ1 ρ2, g (f q) ρ = some ρ1 ∧ body ρ1 = .ok (ρ2, if p q then .rt (r q) else .nx) ∧ (p q = false → I (q.1 + 1) ρ2)) → ∀ ρ, I k ρ →
    ∃ ρ', fl g body ((enL k C).map f) ρ = .ok (ρ', match (enL k C).find? p with | some x => .rt (r x) | none => .nx) ∧ ((enL k C).find? p = none → I (k + C.length) ρ')
  | [], k, _, ρ, h => ⟨ρ, rfl, fun _ => h⟩
  | x :: C, k, h, ρ, hi => by
    obtain ⟨ρ1, ρ2, h1, h2, h3⟩ := h (k, x) List.mem_cons_self ρ hi
    cases e : p (k, x) with
    | true =>
      rw [e] at h2
      exact ⟨ρ2, by simp [enL, fl, ofO, h1, h2, e, R.bind], fun h => by simp [enL, e] at h⟩
    | false =>
      rw [e] at h2
      obtain ⟨ρ', h4, h5⟩ := fl_enum f p r I C (k + 1) (fun y hy => h y (List.mem_cons_of_mem _ hy)) ρ2 (h3 e)
      refine ⟨ρ', by simp [enL, fl, ofO, h1, h2, h4, e, R.bind], fun h => ?_⟩
      rw [List.length_cons, show k + (C.length + 1) = k + 1 + C.length by omega]
      exact h5 (by simpa [enL, e] using h)
/-! ### comprehensions -/
def nw : Option B → Bool
  | some (.own _ _) => false
  | _ => true
theorem nw_one {ρ : Env} {i : Nat} {x : Option B} (h : ρ[i]? = some x) (w : nw x = true) : noOwn ρ [i] = true := by
  unfold noOwn
  rw [List.all_cons, h]
  cases x with
  | none => rfl
  | some b => cases b <;> first | rfl | cases w
theorem nw_two {ρ : Env} {i j : Nat} {x y : Option B} (h : ρ[i]? = some x) (w : nw x = true) (h2 : ρ[j]? = some y) (w2 : nw y = true) : noOwn ρ [i, j] = true := by
  have e1 := nw_one h w
  have e2 := nw_one h2 w2
  unfold noOwn at *
  simp only [List.all_cons, List.all_nil, Bool.and_true] at *
  rw [e1, e2]; rfl
theorem back_wipe {ρ : Env} : ∀ {vs : List Nat}, (∀ v ∈ vs, v < ρ.length) → vs.Nodup → backE ρ (wipeE ρ vs) vs = ρ := by
  intro vs hv hn
  have key : ∀ (us : List Nat) (μ : Env), μ.length = ρ.length → (∀ u ∈ us, u < ρ.length) → (∀ i, i ∉ us → μ[i]? = ρ[i]?) → backE ρ μ us = ρ := by
    intro us
    induction us with
    | nil =>
      intro μ hl _ h
      exact List.ext_getElem? fun i => h i (by simp)
    | cons u us ih =>
      intro μ hl hu h
      have hlt := hu u List.mem_cons_self
      have e : (backE ρ μ us).set u (ρ[u]?.join) = backE ρ (μ.set u (ρ[u]?.join)) us := by
        clear ih h hu
        by_cases hm : ∃ x, x ∈ us
        · clear hm
          induction us with
          | nil => rfl
          | cons w us ih2 =>
            show ((backE ρ μ us).set w _).set u _ = (backE ρ (μ.set u _) us).set w _
            rw [← ih2]
            by_cases hw : w = u
            · subst hw; simp
            · rw [List.set_comm _ _ hw]
        · cases us with
          | nil => rfl
          | cons w us => exact absurd ⟨w, List.mem_cons_self⟩ hm
      show (backE ρ μ us).set u _ = _
      rw [e]
      refine ih _ (by simp [hl]) (fun w hw => hu w (List.mem_cons_of_mem _ hw)) fun i hi => ?_
      by_cases hiu : i = u
      · subst hiu
        rw [List.getElem?_set_self (by omega)]
        rw [List.getElem?_eq_getElem hlt]
        rfl
      · rw [List.getElem?_set_ne (Ne.symm hiu)]
        exact h i (by simp [hiu, hi])
  refine key vs _ ?_ hv ?_
  · clear hv hn key
    induction vs with
    | nil => rfl
    | cons v vs ih => simp [wipeE, ih]
  · clear hv hn key
    induction vs with
    | nil => intro i _; rfl
    | cons v vs ih =>
      intro i hi
      rw [List.mem_cons, not_or] at hi
      rw [wipeE, List.getElem?_set_ne (Ne.symm hi.1)]
      exact ih i hi.2
theorem lcGo_of {α : Type} {vs : List Nat} {g : D → Env → Option Env} {t : DTn} {c : DEn} {μ : Env} (f : α → D) (q : α → Bool) (r : α → D) (en : α → Env) : ∀ (L : List α) (acc : List D),
    (∀ x ∈ L, g (f x) μ = some (en x) ∧ t (en x) = .ok (en x, q x) ∧ (q x = true → c (en x) = .ok (en x, r x)) ∧ wipeE (en x) vs = μ) → acc.length + L.length ≤ 1000000 →
    lcGo vs g t c (L.map f) μ acc = some (μ, acc ++ (L.filter q).map r)
  | [], acc, _, _ => by simp [lcGo]
  | x :: L, acc, h, hl => by
    obtain ⟨h1, h2, h3, h4⟩ := h x List.mem_cons_self
    rw [List.length_cons] at hl
    have h' := fun y hy => h y (List.mem_cons_of_mem x hy)
    cases e : q x with
    | true =>
      rw [e] at h2
      have ih := lcGo_of (t := t) (c := c) f q r en L (acc ++ [r x]) h' (by simp only [List.length_append, List.length_cons, List.length_nil]; omega)
      rw [List.filter_cons_of_pos e]
      simp [lcGo, h1, h2, h3 e, h4, show acc.length + 1 ≤ 1000000 by omega, ih]
    | false =>
      rw [e] at h2
      have ih := lcGo_of (t := t) (c := c) f q r en L acc h' (by omega)
      rw [List.filter_cons_of_neg (by simp [e])]
      simp [lcGo, h1, h2, h4, ih]
/-- [c for v in di if t], nothing owned changed -/
theorem lc_1 {α : Type} {v : Nat} {ρ0 ρ : Env} {di : DIn} {t : DTn} {c : DEn} {L : List α} (f : α → D) (q : α → Bool) (r : α → D) (hv : v < ρ.length) (hn : noOwn ρ [v] = true) (hdi : di ρ0 = .ok (ρ, L.map f))
    (ht : ∀ x ∈ L, t (ρ.set v (sv (f x))) = .ok (ρ.set v (sv (f x)), q x))
    (hc : ∀ x ∈ L, q x = true → c (ρ.set v (sv (f x))) = .ok (ρ.set v (sv (f x)), r x)) (hl : L.length ≤ 1000000) :
    oLc di [v] (gNm v) t c ρ0 = .ok (ρ, .fr (.lst ((L.filter q).map r))) := by
  have e := lcGo_of (vs := [v]) (g := gNm v) (t := t) (c := c) (μ := wipeE ρ [v]) f q r (fun x => ρ.set v (sv (f x))) L [] (fun x hx => ⟨by simp [gNm, wipeE], ht x hx, hc x hx, by simp [wipeE]⟩) (by simpa using hl)
  unfold oLc
  rw [hdi]
  show (if noOwn ρ [v] = true then _ else _) = _
  rw [if_pos hn]
  simp only [e, back_wipe (vs := [v]) (by simpa using hv) (by simp), List.nil_append]
/-- [c for v, w in di if t] -/
theorem lc_2 {α : Type} {v w : Nat} {ρ0 ρ : Env} {di : DIn} {t : DTn} {c : DEn} {L : List α} (f1 f2 : α → D) (q : α → Bool) (r : α → D) (hv : v < ρ.length) (hw : w < ρ.length) (hvw : v ≠ w) (hn : noOwn ρ [v, w] = true) (hdi : di ρ0 = .ok (ρ, L.map fun x => .tup [f1 x, f2 x]))
    (ht : ∀ x ∈ L, t ((ρ.set v (sv (f1 x))).set w (sv (f2 x))) = .ok ((ρ.set v (sv (f1 x))).set w (sv (f2 x)), q x))
    (hc : ∀ x ∈ L, q x = true → c ((ρ.set v (sv (f1 x))).set w (sv (f2 x))) = .ok ((ρ.set v (sv (f1 x))).set w (sv (f2 x)), r x)) (hl : L.length ≤ 1000000) :
    oLc di [v, w] (gTp (gsCons (gNm v) (gsCons (gNm w) gsNil))) t c ρ0 = .ok (ρ, .fr (.lst ((L.filter q).map r))) := by
  have e := lcGo_of (vs := [v, w]) (g := gTp (gsCons (gNm v) (gsCons (gNm w) gsNil))) (t := t) (c := c) (μ := wipeE ρ [v, w]) (fun x => .tup [f1 x, f2 x]) q r (fun x => (ρ.set v (sv (f1 x))).set w (sv (f2 x))) L [] (fun x hx => ⟨by
      simp only [gTp, gsCons, gNm, gsNil, wipeE, Option.bind_some, List.set_set, Option.some.injEq]
      rw [List.set_comm (i := w) (j := v) _ _ (Ne.symm hvw), List.set_set], ht x hx, hc x hx, by
      simp only [wipeE, List.set_set]
      rw [List.set_comm (i := v) (j := w) _ _ hvw, List.set_set, List.set_comm (i := w) (j := v) _ _ (Ne.symm hvw)]⟩) (by simpa using hl)
  unfold oLc
  rw [hdi]
  show (if noOwn ρ [v, w] = true then _ else _) = _
  rw [if_pos hn]
  simp only [e, back_wipe (ρ := ρ) (vs := [v, w]) (by simp [hv, hw]) (by simpa using hvw), List.nil_append]
/-- a comprehension that draws: what holds of the frame is told by I -/
theorem lcGo_st {vs : List Nat} {g : D → Env → Option Env} {t : DTn} {c : DEn} (I : Env → Prop) (R : D → Prop) : ∀ (ds acc : List D) (μ : Env),
    (∀ d ∈ ds, ∀ μ, I μ → ∃ μ1 μ3 y, g d μ = some μ1 ∧ t μ1 = .ok (μ1, true) ∧ c μ1 = .ok (μ3, y) ∧ I (wipeE μ3 vs) ∧ R y) → I μ → acc.length + ds.length ≤ 1000000 →
    ∃ μ' ys, lcGo vs g t c ds μ acc = some (μ', acc ++ ys) ∧ I μ' ∧ ys.length = ds.length ∧ ∀ y ∈ ys, R y
  | [], acc, μ, _, hi, _ => ⟨μ, [], by simp [lcGo], hi, rfl, by simp⟩
  | d :: ds, acc, μ, h, hi, hl => by
    obtain ⟨μ1, μ3, y, h1, h2, h3, h4, h5⟩ := h d List.mem_cons_self μ hi
    rw [List.length_cons] at hl
    obtain ⟨μ', ys, e1, e2, e3, e4⟩ := lcGo_st I R ds (acc ++ [y]) (wipeE μ3 vs) (fun x hx => h x (List.mem_cons_of_mem _ hx)) h4 (by simp only [List.length_append, List.length_cons, List.length_nil]; omega)
    refine ⟨μ', y :: ys, ?_, e2, by simp [e3], ?_⟩
    · simp [lcGo, h1, h2, h3, show acc.length + 1 ≤ 1000000 by omega, e1]
    · intro z hz
      rcases List.mem_cons.mp hz with rfl | hz
      · exact h5
      · exact e4 z hz
theorem map_of {α : Type} (f : α → D) (P : α → Prop) : ∀ {ys : List D}, (∀ y ∈ ys, ∃ x, y = f x ∧ P x) → ∃ L : List α, ys = L.map f ∧ ∀ x ∈ L, P x
  | [], _ => ⟨[], rfl, by simp⟩
  | y :: ys, h => by
    obtain ⟨x, rfl, hx⟩ := h y List.mem_cons_self
    obtain ⟨L, rfl, hL⟩ := map_of f P (fun z hz => h z (List.mem_cons_of_mem _ hz))
    exact ⟨x :: L, rfl, fun z hz => by
      rcases List.mem_cons.mp hz with rfl | hz
      · exact hx
      · exact hL z hz⟩
/-- what a slot holds, after others were set -/
theorem get_ne {ρ : Env} {i j : Nat} {x : Option B} (h : j ≠ i) : (ρ.set j x)[i]? = ρ[i]? := List.getElem?_set_ne h
theorem get_eq {ρ : Env} {i : Nat} {x : Option B} (h : i < ρ.length) : (ρ.set i x)[i]? = some x := List.getElem?_set_self h
theorem noOwn_set {ρ : Env} {i : Nat} {d : Option B} {vs : List Nat} (hd : nw d = true) (h : noOwn ρ vs = true) : noOwn (ρ.set i d) vs = true := by
  unfold noOwn at *
  rw [List.all_eq_true] at *
  intro v hv
  have := h v hv
  by_cases e : i = v
  · subst e
    by_cases hl : i < ρ.length
    · rw [List.getElem?_set_self hl]
      cases d with
      | none => rfl
      | some b => cases b <;> first | rfl | cases hd
    · rw [List.getElem?_eq_none (by simp; omega)]
  · rw [List.getElem?_set_ne e]; exact this
theorem noOwn_keep {ρ : Env} {i : Nat} {d : Option B} {vs : List Nat} (hi : i ∉ vs) (h : noOwn ρ vs = true) : noOwn (ρ.set i d) vs = true := by
  unfold noOwn at *
  rw [List.all_eq_true] at *
  intro v hv
  have := h v hv
  rw [List.getElem?_set_ne (fun e => hi (by rw [e]; exact hv))]
  exact this
end Zd
end
section
namespace A
open PySem Zd
set_option autoImplicit false
/-! ### the law's draws -/
theorem ix_int {L : List Int} {k : Int} (h0 : 0 ≤ k) (h1 : k < L.length) : ∃ c : Int, ixD (fIs L) (.int k) = some (.int c) := by
  unfold fIs
  have hk : k.toNat < L.length := by omega
  refine ⟨L[k.toNat], ?_⟩
  have a1 : k < ((L.map D.int).length : Int) := by simpa using h1
  simp [ixD, L2.atI, L2.ixN, h0, h1, hk]
theorem f_cell {L : List Int} {k : Int} (h0 : 0 ≤ k) : ∃ c : Int, F__law_cell_at [.val (fIs L), iv k] = .ok [none, none] (.int c) := by
  by_cases h : k < L.length
  · obtain ⟨c, hc⟩ := ix_int (L := L) h0 h
    exact ⟨c, by simp [cfOf, startE, fin_, outsOf, retag, findTag, dRet, dSeq, dEnd, dNever, dIte, dIf, dDrop, dFld, dSet, toB, dC, dName, dBl, dNot, dAnd, dOr, tAndD, tOrD, tNotD, dTru, dBoolC, boolD, dIsi, dIsi2, dIsC, tyN, isN, d2, d3, oV, oPl, aNil, aCons, aStar, argB, argsB, ownPl, nodupB, wb, wb1, dCall, dMeth, oMake, oMake0, dSetFld, res, resAll, bV_val, bV_own, tD_lst, tD_ins, vals, dL, dLV, dTup, dLst, oLst, sz, ofO, i0D, iD, truD, dFz, R.bind, dAsg, gTp, gsCons, gsNil, gNm, dPar, setAll, dAug, dSetIx, isOwn, dApp, dFor, iVals, iRes, iSeq, dSl, pNo, pSome, dNeg, fdivD, modD, powD, mulA, mulI, absD, intD, max2D, min2D, max3D, min3D, isND, notND, dRaise, dDict, okP, flp, sq_tIs, sq_fIs, sq_tT, sq_lT, sq_tB, sq_lB, isq_tIs, isq_fIs, isq_tT, isq_lT, isq_tB, isq_lB, len_tIs, len_fIs, len_tT, len_lT, len_tB, len_lB, en_tIs, en_fIs, en_tT, en_lT, en_tB, en_lB, tup_tIs, tup_fIs, tup_tT, tup_lT, tup_tB, tup_lB, lst_tIs, lst_fIs, lst_tT, lst_lT, lst_tB, lst_lB, Tg_0, Tg_1, f_tIs, f_fIs, f_tT, f_lT, f_tB, f_lB, List.getElem?_set, List.getElem?_cons_zero, List.getElem?_cons_succ, List.getElem?_nil, sq_tup, sq_lst, isq_tup, isq_lst, len_tup, len_lst, add_int, le_int, lt_int, ge_int, gt_int, vals_c1, vals_c0, vals_st1, vals_st0, any_bl, all_bl, ix_t0, ix_t1, ix_t2, -getElem?_pos, F__law_cell_at, D__law_cell_at, h, hc]⟩
  · exact ⟨0, by simp [cfOf, startE, fin_, outsOf, retag, findTag, dRet, dSeq, dEnd, dNever, dIte, dIf, dDrop, dFld, dSet, toB, dC, dName, dBl, dNot, dAnd, dOr, tAndD, tOrD, tNotD, dTru, dBoolC, boolD, dIsi, dIsi2, dIsC, tyN, isN, d2, d3, oV, oPl, aNil, aCons, aStar, argB, argsB, ownPl, nodupB, wb, wb1, dCall, dMeth, oMake, oMake0, dSetFld, res, resAll, bV_val, bV_own, tD_lst, tD_ins, vals, dL, dLV, dTup, dLst, oLst, sz, ofO, i0D, iD, truD, dFz, R.bind, dAsg, gTp, gsCons, gsNil, gNm, dPar, setAll, dAug, dSetIx, isOwn, dApp, dFor, iVals, iRes, iSeq, dSl, pNo, pSome, dNeg, fdivD, modD, powD, mulA, mulI, absD, intD, max2D, min2D, max3D, min3D, isND, notND, dRaise, dDict, okP, flp, sq_tIs, sq_fIs, sq_tT, sq_lT, sq_tB, sq_lB, isq_tIs, isq_fIs, isq_tT, isq_lT, isq_tB, isq_lB, len_tIs, len_fIs, len_tT, len_lT, len_tB, len_lB, en_tIs, en_fIs, en_tT, en_lT, en_tB, en_lB, tup_tIs, tup_fIs, tup_tT, tup_lT, tup_tB, tup_lB, lst_tIs, lst_fIs, lst_tT, lst_lT, lst_tB, lst_lB, Tg_0, Tg_1, f_tIs, f_fIs, f_tT, f_lT, f_tB, f_lB, List.getElem?_set, List.getElem?_cons_zero, List.getElem?_cons_succ, List.getElem?_nil, sq_tup, sq_lst, isq_tup, isq_lst, len_tup, len_lst, add_int, le_int, lt_int, ge_int, gt_int, vals_c1, vals_c0, vals_st1, vals_st0, any_bl, all_bl, ix_t0, ix_t1, ix_t2, -getElem?_pos, F__law_cell_at, D__law_cell_at, h]⟩
def primes : List Int := [1000003, 1000033, 1000037, 1000039, 1000081, 1000099, 1000117, 1000121, 1000133, 1000151, 1000159, 1000171, 1000183, 1000187, 1000193, 1000199]
theorem ix_tI {L : List Int} {k : Int} (h0 : 0 ≤ k) (h1 : k < L.length) : ∃ c ∈ L, ixD (tIs L) (.int k) = some (.int c) := by
  unfold tIs
  have hk : k.toNat < L.length := by omega
  refine ⟨L[k.toNat], List.getElem_mem hk, ?_⟩
  simp [ixD, L2.atI, L2.ixN, h0, h1, hk]
theorem ix_prime {k : Int} (h0 : 0 ≤ k) (h1 : k < 16) : ∃ c : Int, 0 < c ∧ ixD (.tup (primes.map D.int)) (.int k) = some (.int c) := by
  obtain ⟨c, hc, e⟩ := ix_tI (L := primes) h0 (by simpa [primes] using h1)
  have : ∀ x ∈ primes, (0 : Int) < x := by decide
  exact ⟨c, this c hc, e⟩
theorem f_draw {c k b : Int} (hb : 0 < b) : ∃ r : Int, 0 ≤ r ∧ r < b ∧ F__law_draw [iv c, iv k, iv b] = .ok [none, none, none] (.int r) := by
  obtain ⟨p, hp, hx⟩ := ix_prime (mod_lt (a := k) (b := 16) (by omega)).1 (mod_lt (a := k) (b := 16) (by omega)).2
  have hx' : ixD (D.tup [D.int 1000003, D.int 1000033, D.int 1000037, D.int 1000039, D.int 1000081, D.int 1000099, D.int 1000117, D.int 1000121, D.int 1000133, D.int 1000151, D.int 1000159, D.int 1000171, D.int 1000183, D.int 1000187, D.int 1000193, D.int 1000199]) (D.int (k % 16)) = some (.int p) := hx
  refine ⟨(c * 48271 + k * 69621) % p % b, (mod_lt hb).1, (mod_lt hb).2, ?_⟩
  simp [cfOf, startE, fin_, outsOf, retag, findTag, dRet, dSeq, dEnd, dNever, dIte, dIf, dDrop, dFld, dSet, toB, dC, dName, dBl, dNot, dAnd, dOr, tAndD, tOrD, tNotD, dTru, dBoolC, boolD, dIsi, dIsi2, dIsC, tyN, isN, d2, d3, oV, oPl, aNil, aCons, aStar, seqOf, argB, argsB, ownPl, nodupB, wb, wb1, dCall, dMeth, oMake, oMake0, dSetFld, res, resAll, bV_val, bV_own, tD_lst, tD_ins, vals, dL, dLV, dTup, dLst, oLst, sz, ofO, leD, ltD, gtD, geD, i0D, iD, truD, isSq, lenD, dFz, R.bind, dAsg, gTp, gsCons, gsNil, gNm, dPar, setAll, dAug, dSetIx, isOwn, dApp, dFor, iVals, iRes, iSeq, dSl, pNo, pSome, cutD, dNeg, fdivD, modD, powD, mulA, mulI, addD, absD, intD, max2D, min2D, max3D, min3D, isND, notND, dRaise, dTM, ixD2, keyD, getK, dDict, okP, flp, F__law_draw, D__law_draw, s64, hx', hb, hp]
def mulN : Int → Nat → Int
  | sc, 0 => sc
  | sc, n + 1 => mulN (sc * 1009) n
theorem scale_ok : ∀ n : _root_.Fin 24, (decide (0 < mulN 1 n.val) && decide ((mulN 1 n.val).natAbs.log2 < 9000)) = true := by decide +kernel
theorem scale_of {n : Nat} (h : n < 24) : 0 < mulN 1 n ∧ (mulN 1 n).natAbs.log2 < 9000 := by
  have := scale_ok ⟨n, h⟩
  rw [Bool.and_eq_true, decide_eq_true_iff, decide_eq_true_iff] at this
  exact this
theorem small1009 : small64 1009 = true := by decide
theorem loop_scale {a b c : Option B} : ∀ (ds : List D) (sc : Int) (x5 x6 : Option B) (x : Option B), ∃ x' : Option B,
    fl (gNm 4) (dSet 3 (oV (d2 mulA (oPl 3) (oV (dC (.int 1009)))))) ds [a, b, c, some (.val (.int sc)), x, x5, x6] = .ok ([a, b, c, some (.val (.int (mulN sc ds.length))), x', x5, x6], .nx)
  | [], sc, x5, x6, x => ⟨x, rfl⟩
  | d :: ds, sc, x5, x6, x => by
    obtain ⟨x', ih⟩ := loop_scale ds (sc * 1009) x5 x6 (some (.val d))
    refine ⟨x', ?_⟩
    rw [List.length_cons, mulN, ← ih]
    simp [cfOf, startE, fin_, outsOf, retag, findTag, dRet, dSeq, dEnd, dNever, dIte, dIf, dDrop, dFld, dSet, toB, dC, dName, dBl, dNot, dAnd, dOr, tAndD, tOrD, tNotD, dTru, dBoolC, boolD, dIsi, dIsi2, dIsC, tyN, isN, d2, d3, oV, oPl, aNil, aCons, aStar, seqOf, argB, argsB, ownPl, nodupB, wb, wb1, dCall, dMeth, oMake, oMake0, dSetFld, res, resAll, bV_val, bV_own, tD_lst, tD_ins, vals, dL, dLV, dTup, dLst, oLst, sz, ofO, leD, ltD, gtD, geD, i0D, iD, truD, isSq, lenD, dFz, R.bind, dAsg, gTp, gsCons, gsNil, gNm, dPar, setAll, dAug, dSetIx, isOwn, dApp, dFor, iVals, iRes, iSeq, dSl, pNo, pSome, cutD, dNeg, fdivD, modD, powD, mulA, mulI, addD, absD, intD, max2D, min2D, max3D, min3D, isND, notND, dRaise, dTM, ixD2, keyD, getK, dDict, okP, flp, fl, small1009]
theorem f_number {c k b : Int} (h0 : 1 ≤ k) (h1 : k ≤ 12) (hb : 0 < b) : ∃ r : Int, 0 ≤ r ∧ r < b ∧ F__law_number [iv c, iv k, iv b] = .ok [none, none, none] (.int r) := by
  have m24 := mod_lt (a := k) (b := 24) (by omega)
  have hn : near (k % 24) = true := near_ok (by omega) (by omega)
  have hlen : (rngL 0 1 (k % 24).toNat).length < 24 := by rw [rngL_len]; omega
  obtain ⟨hs0, hs1⟩ := scale_of hlen
  obtain ⟨x', hl⟩ := loop_scale (a := some (iv c)) (b := some (iv k)) (c := some (iv b)) (rngL 0 1 (k % 24).toNat) 1 none none none
  generalize mulN 1 (rngL 0 1 (k % 24).toNat).length = sc at hs0 hs1 hl
  have e10 : powD (.int 10) (.int 18) = some (.int (10 ^ 18)) := rfl
  have p18 : (10 : Int) ^ 18 = 1000000000000000000 := rfl
  simp only [p18] at e10
  have sm := mod_lt (a := c) (b := 1000003) (by omega)
  by_cases hpos : 0 < (c - 1000000000000000000) / sc
  · refine ⟨(c - 1000000000000000000) / sc % 1009 % b, (mod_lt hb).1, (mod_lt hb).2, ?_⟩
    simp [cfOf, startE, fin_, outsOf, retag, findTag, dRet, dSeq, dEnd, dNever, dIte, dIf, dDrop, dFld, dSet, toB, dC, dName, dBl, dNot, dAnd, dOr, tAndD, tOrD, tNotD, dTru, dBoolC, boolD, dIsi, dIsi2, dIsC, tyN, isN, d2, d3, oV, oPl, aNil, aCons, aStar, seqOf, argB, argsB, ownPl, nodupB, wb, wb1, dCall, dMeth, oMake, oMake0, dSetFld, res, resAll, bV_val, bV_own, tD_lst, tD_ins, vals, dL, dLV, dTup, dLst, oLst, sz, ofO, leD, ltD, gtD, geD, i0D, iD, truD, isSq, lenD, dFz, R.bind, dAsg, gTp, gsCons, gsNil, gNm, dPar, setAll, dAug, dSetIx, isOwn, dApp, dFor, iVals, iRes, iSeq, dSl, pNo, pSome, cutD, dNeg, fdivD, modD, mulA, mulI, addD, absD, intD, max2D, min2D, max3D, min3D, isND, notND, dRaise, dTM, ixD2, keyD, getK, dDict, okP, flp, F__law_number, D__law_number, intD, rng1, hn, hl, e10, hs0, hs1, hpos, hb]
  · obtain ⟨r, r0, r1, hr⟩ := f_draw (c := (c % 1000003 + 977 * k) * (c % 1000003 + 31 * k + 5)) (k := k % 9 + 1) (b := 999983) (by omega)
    refine ⟨r % b, (mod_lt hb).1, (mod_lt hb).2, ?_⟩
    have s1 : small64 977 = true := by decide
    have s2 : small64 31 = true := by decide
    have s3 : small64 (c % 1000003 + 977 * k) = true := s64 (by omega) (by omega)
    simp [cfOf, startE, fin_, outsOf, retag, findTag, dRet, dSeq, dEnd, dNever, dIte, dIf, dDrop, dFld, dSet, toB, dC, dName, dBl, dNot, dAnd, dOr, tAndD, tOrD, tNotD, dTru, dBoolC, boolD, dIsi, dIsi2, dIsC, tyN, isN, d2, d3, oV, oPl, aNil, aCons, aStar, seqOf, argB, argsB, ownPl, nodupB, wb, wb1, dCall, dMeth, oMake, oMake0, dSetFld, res, resAll, bV_val, bV_own, tD_lst, tD_ins, vals, dL, dLV, dTup, dLst, oLst, sz, ofO, leD, ltD, gtD, geD, i0D, iD, truD, isSq, lenD, dFz, R.bind, dAsg, gTp, gsCons, gsNil, gNm, dPar, setAll, dAug, dSetIx, isOwn, dApp, dFor, iVals, iRes, iSeq, dSl, pNo, pSome, cutD, dNeg, fdivD, modD, mulA, mulI, addD, absD, intD, max2D, min2D, max3D, min3D, isND, notND, dRaise, dTM, ixD2, keyD, getK, dDict, okP, flp, F__law_number, D__law_number, intD, rng1, hn, hl, e10, hs0, hs1, hpos, hb, s1, s2, s3, hr]
theorem f_next {L : List Int} {n b : Int} {t : Nat} (hn : 0 ≤ n) (hb : 0 < b) : ∃ r : Int, 0 ≤ r ∧ r < b ∧
    F__law_next [.own t (.lst [fIs L, .int 0, .int n]), iv b] = .ok [some (.lst [fIs L, .int 0, .int (n + 1)]), none] (.int r) := by
  have m12 := mod_lt (a := n + 1) (b := 12) (by omega)
  obtain ⟨c, hc⟩ := f_cell (L := L) (k := (n + 1) / 12) (by omega)
  obtain ⟨r, h0, h1, hr⟩ := f_number (c := c + 31 * ((n + 1) / 12)) (k := (n + 1) % 12 + 1) (b := b) (by omega) (by omega) hb
  refine ⟨r, h0, h1, ?_⟩
  have s31 : small64 31 = true := by decide
  have l12 : (12 : Nat).log2 < 9000 := by decide
  simp [cfOf, startE, fin_, outsOf, retag, findTag, dRet, dSeq, dEnd, dNever, dIte, dIf, dDrop, dFld, dSet, toB, dC, dName, dBl, dNot, dAnd, dOr, tAndD, tOrD, tNotD, dTru, dBoolC, boolD, dIsi, dIsi2, dIsC, tyN, isN, d2, d3, oV, oPl, aNil, aCons, aStar, seqOf, argB, argsB, ownPl, nodupB, wb, wb1, dCall, dMeth, oMake, oMake0, dSetFld, res, resAll, bV_val, bV_own, tD_lst, tD_ins, vals, dL, dLV, dTup, dLst, oLst, sz, ofO, leD, ltD, gtD, geD, i0D, iD, truD, isSq, lenD, dFz, R.bind, dAsg, gTp, gsCons, gsNil, gNm, dPar, setAll, dAug, dSetIx, isOwn, dApp, dFor, iVals, iRes, iSeq, dSl, pNo, pSome, cutD, dNeg, fdivD, modD, powD, mulA, mulI, addD, absD, intD, max2D, min2D, max3D, min3D, isND, notND, dRaise, dTM, ixD2, keyD, getK, dDict, okP, flp, F__law_next, D__law_next, ixD, L2.atI, L2.ixN, hc, hr, s31, l12]
end A
end
section
namespace A
open PySem Zd
set_option autoImplicit false
inductive Me where
  | all
  | last
  | win (w : Nat)
def Me.d : Me → D
  | .all => .tup [.str "all"]
  | .last => .tup [.str "last"]
  | .win w => .tup [.str "window", .int w]
def Me.hd : Me → Str
  | .all => "all"
  | .last => "last"
  | .win _ => "window"
def Me.ok : Me → Prop
  | .win w => w ≤ 12
  | _ => True
theorem hd_ix (m : Me) : ixD m.d (.int 0) = some (.str m.hd) := by cases m <;> rfl
def Me.isLast : Me → Bool
  | .last => true
  | _ => false
def Me.isWin : Me → Bool
  | .win _ => true
  | _ => false
theorem hd_last (m : Me) : eqD (.str m.hd) (.str "last") = some (.bl m.isLast) := by cases m <;> kernel_rfl
theorem hd_win (m : Me) : eqD (.str m.hd) (.str "window") = some (.bl m.isWin) := by cases m <;> kernel_rfl
theorem f_is_row_T (C : List (Int × Int)) : F_is_row [.val (tT C)] = .ok [none] (.bl true) := by simp [cfOf, startE, fin_, outsOf, retag, findTag, dRet, dSeq, dEnd, dNever, dIte, dIf, dDrop, dFld, dSet, toB, dC, dName, dBl, dNot, dAnd, dOr, tAndD, tOrD, tNotD, dTru, dBoolC, boolD, dIsi, dIsi2, dIsC, tyN, isN, d2, d3, oV, oPl, aNil, aCons, aStar, seqOf, argB, argsB, ownPl, nodupB, wb, wb1, dCall, dMeth, oMake, oMake0, dSetFld, res, resAll, bV_val, bV_own, tD_lst, tD_ins, vals, dL, dLV, dTup, dLst, oLst, sz, ofO, leD, ltD, gtD, geD, i0D, iD, truD, isSq, lenD, dFz, R.bind, dAsg, gTp, gsCons, gsNil, gNm, dPar, setAll, dAug, dSetIx, isOwn, dApp, dFor, iVals, iRes, iSeq, dSl, pNo, pSome, cutD, dNeg, fdivD, modD, powD, mulA, mulI, addD, absD, intD, max2D, min2D, max3D, min3D, isND, notND, dRaise, dTM, ixD2, keyD, getK, dDict, okP, flp, F_is_row, D_is_row, tT]
theorem f_is_row_I (C : List Int) : F_is_row [.val (tIs C)] = .ok [none] (.bl true) := by simp [cfOf, startE, fin_, outsOf, retag, findTag, dRet, dSeq, dEnd, dNever, dIte, dIf, dDrop, dFld, dSet, toB, dC, dName, dBl, dNot, dAnd, dOr, tAndD, tOrD, tNotD, dTru, dBoolC, boolD, dIsi, dIsi2, dIsC, tyN, isN, d2, d3, oV, oPl, aNil, aCons, aStar, seqOf, argB, argsB, ownPl, nodupB, wb, wb1, dCall, dMeth, oMake, oMake0, dSetFld, res, resAll, bV_val, bV_own, tD_lst, tD_ins, vals, dL, dLV, dTup, dLst, oLst, sz, ofO, leD, ltD, gtD, geD, i0D, iD, truD, isSq, lenD, dFz, R.bind, dAsg, gTp, gsCons, gsNil, gNm, dPar, setAll, dAug, dSetIx, isOwn, dApp, dFor, iVals, iRes, iSeq, dSl, pNo, pSome, cutD, dNeg, fdivD, modD, powD, mulA, mulI, addD, absD, intD, max2D, min2D, max3D, min3D, isND, notND, dRaise, dTM, ixD2, keyD, getK, dDict, okP, flp, F_is_row, D_is_row, tIs]
theorem f_is_integer (i : Int) : F_is_integer [iv i] = .ok [none] (.bl true) := by simp [cfOf, startE, fin_, outsOf, retag, findTag, dRet, dSeq, dEnd, dNever, dIte, dIf, dDrop, dFld, dSet, toB, dC, dName, dBl, dNot, dAnd, dOr, tAndD, tOrD, tNotD, dTru, dBoolC, boolD, dIsi, dIsi2, dIsC, tyN, isN, d2, d3, oV, oPl, aNil, aCons, aStar, seqOf, argB, argsB, ownPl, nodupB, wb, wb1, dCall, dMeth, oMake, oMake0, dSetFld, res, resAll, bV_val, bV_own, tD_lst, tD_ins, vals, dL, dLV, dTup, dLst, oLst, sz, ofO, leD, ltD, gtD, geD, i0D, iD, truD, isSq, lenD, dFz, R.bind, dAsg, gTp, gsCons, gsNil, gNm, dPar, setAll, dAug, dSetIx, isOwn, dApp, dFor, iVals, iRes, iSeq, dSl, pNo, pSome, cutD, dNeg, fdivD, modD, powD, mulA, mulI, addD, absD, intD, max2D, min2D, max3D, min3D, isND, notND, dRaise, dTM, ixD2, keyD, getK, dDict, okP, flp, F_is_integer, D_is_integer]
theorem f_is_number (i a b : Int) : F_is_number [iv i, iv a, iv b] = .ok [none, none, none] (.bl (decide (a ≤ i) && decide (i ≤ b))) := by
  simp [cfOf, startE, fin_, outsOf, retag, findTag, dRet, dSeq, dEnd, dNever, dIte, dIf, dDrop, dFld, dSet, toB, dC, dName, dBl, dNot, dAnd, dOr, tAndD, tOrD, tNotD, dTru, dBoolC, boolD, dIsi, dIsi2, dIsC, tyN, isN, d2, d3, oV, oPl, aNil, aCons, aStar, seqOf, argB, argsB, ownPl, nodupB, wb, wb1, dCall, dMeth, oMake, oMake0, dSetFld, res, resAll, bV_val, bV_own, tD_lst, tD_ins, vals, dL, dLV, dTup, dLst, oLst, sz, ofO, leD, ltD, gtD, geD, i0D, iD, truD, isSq, lenD, dFz, R.bind, dAsg, gTp, gsCons, gsNil, gNm, dPar, setAll, dAug, dSetIx, isOwn, dApp, dFor, iVals, iRes, iSeq, dSl, pNo, pSome, cutD, dNeg, fdivD, modD, powD, mulA, mulI, addD, absD, intD, max2D, min2D, max3D, min3D, isND, notND, dRaise, dTM, ixD2, keyD, getK, dDict, okP, flp, F_is_number, D_is_number, f_is_integer]
  by_cases h : a ≤ i <;> simp [h]
theorem f_is_pair (p : Int × Int) : F_is_pair [.val (Tg p)] = .ok [none] (.bl true) := by
  simp [cfOf, startE, fin_, outsOf, retag, findTag, dRet, dSeq, dEnd, dNever, dIte, dIf, dDrop, dFld, dSet, toB, dC, dName, dBl, dNot, dAnd, dOr, tAndD, tOrD, tNotD, dTru, dBoolC, boolD, dIsi, dIsi2, dIsC, tyN, isN, d2, d3, oV, oPl, aNil, aCons, aStar, seqOf, argB, argsB, ownPl, nodupB, wb, wb1, dCall, dMeth, oMake, oMake0, dSetFld, res, resAll, bV_val, bV_own, tD_lst, tD_ins, vals, dL, dLV, dTup, dLst, oLst, sz, ofO, leD, ltD, gtD, geD, i0D, iD, truD, isSq, lenD, dFz, R.bind, dAsg, gTp, gsCons, gsNil, gNm, dPar, setAll, dAug, dSetIx, isOwn, dApp, dFor, iVals, iRes, iSeq, dSl, pNo, pSome, cutD, dNeg, fdivD, modD, powD, mulA, mulI, addD, absD, intD, max2D, min2D, max3D, min3D, isND, notND, dRaise, dTM, ixD2, keyD, getK, dDict, okP, flp, F_is_pair, D_is_pair, Tg, eq_int]
theorem f_is_tag {p : Int × Int} (h0 : 0 ≤ p.1) (h1 : p.1 ≤ 3) (h2 : 0 ≤ p.2) (h3 : p.2 ≤ 9) : F_is_tag [.val (Tg p)] = .ok [none] (.bl true) := by
  have hp := f_is_pair p
  simp [cfOf, startE, fin_, outsOf, retag, findTag, dRet, dSeq, dEnd, dNever, dIte, dIf, dDrop, dFld, dSet, toB, dC, dName, dBl, dNot, dAnd, dOr, tAndD, tOrD, tNotD, dTru, dBoolC, boolD, dIsi, dIsi2, dIsC, tyN, isN, d2, d3, oV, oPl, aNil, aCons, aStar, argB, argsB, ownPl, nodupB, wb, wb1, dCall, dMeth, oMake, oMake0, dSetFld, res, resAll, bV_val, bV_own, tD_lst, tD_ins, vals, dL, dLV, dTup, dLst, oLst, sz, ofO, i0D, iD, truD, dFz, R.bind, dAsg, gTp, gsCons, gsNil, gNm, dPar, setAll, dAug, dSetIx, isOwn, dApp, dFor, iVals, iRes, iSeq, dSl, pNo, pSome, dNeg, fdivD, modD, powD, mulA, mulI, absD, intD, max2D, min2D, max3D, min3D, isND, notND, dRaise, dDict, okP, flp, sq_tIs, sq_fIs, sq_tT, sq_lT, sq_tB, sq_lB, isq_tIs, isq_fIs, isq_tT, isq_lT, isq_tB, isq_lB, len_tIs, len_fIs, len_tT, len_lT, len_tB, len_lB, en_tIs, en_fIs, en_tT, en_lT, en_tB, en_lB, tup_tIs, tup_fIs, tup_tT, tup_lT, tup_tB, tup_lB, lst_tIs, lst_fIs, lst_tT, lst_lT, lst_tB, lst_lB, Tg_0, Tg_1, f_tIs, f_fIs, f_tT, f_lT, f_tB, f_lB, List.getElem?_set, List.getElem?_cons_zero, List.getElem?_cons_succ, List.getElem?_nil, sq_tup, sq_lst, isq_tup, isq_lst, len_tup, len_lst, add_int, le_int, lt_int, ge_int, gt_int, vals_c1, vals_c0, vals_st1, vals_st0, any_bl, all_bl, ix_t0, ix_t1, ix_t2, -getElem?_pos, F_is_tag, D_is_tag, hp, vv_MOST_CLIENTS, f_is_number, h0, h1, h2, h3]
def TagOk (p : Int × Int) : Prop := 0 ≤ p.1 ∧ p.1 ≤ 3 ∧ 0 ≤ p.2 ∧ p.2 ≤ 9
theorem f_check_comes {C : List (Int × Int)} (hl : C.length ≤ 24) (h : ∀ p ∈ C, TagOk p) : F_check_comes [.val (tT C)] = .ok [none] .non := by
  obtain ⟨ρ', h1, h2⟩ := fl_inv (g := gTp (gsCons (gNm 1) (gsCons (gNm 2) gsNil))) (body := dIte (tNotD (dTru M_bool (oV (dCall F_is_tag (aCons (oPl 2) aNil))))) (dRaise 0 2 (aCons (oV (dC (.str "comes"))) (aCons (oV (dName 1)) aNil))) (dEnd .nx)) (fun ρ => ρ.length = 3) ((enL 0 C).map fun p => .tup [.int p.1, Tg p.2]) (fun d hd ρ hI => by
      obtain ⟨p, hp, rfl⟩ := List.mem_map.mp hd
      obtain ⟨i, _, hp⟩ := enL_mem hp
      have ht := h p.2 (List.mem_of_getElem? hp)
      have hf := f_is_tag ht.1 ht.2.1 ht.2.2.1 ht.2.2.2
      refine ⟨(ρ.set 1 (sv (.int p.1))).set 2 (sv (Tg p.2)), (ρ.set 1 (sv (.int p.1))).set 2 (sv (Tg p.2)), by simp [gTp, gsCons, gNm, gsNil], ?_, by simp [hI]⟩
      simp [cfOf, startE, fin_, outsOf, retag, findTag, dRet, dSeq, dEnd, dNever, dIte, dIf, dDrop, dFld, dSet, toB, dC, dName, dBl, dNot, dAnd, dOr, tAndD, tOrD, tNotD, dTru, dBoolC, boolD, dIsi, dIsi2, dIsC, tyN, isN, d2, d3, oV, oPl, aNil, aCons, aStar, argB, argsB, ownPl, nodupB, wb, wb1, dCall, dMeth, oMake, oMake0, dSetFld, res, resAll, bV_val, bV_own, tD_lst, tD_ins, vals, dL, dLV, dTup, dLst, oLst, sz, ofO, i0D, iD, truD, dFz, R.bind, dAsg, gTp, gsCons, gsNil, gNm, dPar, setAll, dAug, dSetIx, isOwn, dApp, dFor, iVals, iRes, iSeq, dSl, pNo, pSome, dNeg, fdivD, modD, powD, mulA, mulI, absD, intD, max2D, min2D, max3D, min3D, isND, notND, dRaise, dDict, okP, flp, sq_tIs, sq_fIs, sq_tT, sq_lT, sq_tB, sq_lB, isq_tIs, isq_fIs, isq_tT, isq_lT, isq_tB, isq_lB, len_tIs, len_fIs, len_tT, len_lT, len_tB, len_lB, en_tIs, en_fIs, en_tT, en_lT, en_tB, en_lB, tup_tIs, tup_fIs, tup_tT, tup_lT, tup_tB, tup_lB, lst_tIs, lst_fIs, lst_tT, lst_lT, lst_tB, lst_lB, Tg_0, Tg_1, f_tIs, f_fIs, f_tT, f_lT, f_tB, f_lB, List.getElem?_set, List.getElem?_cons_zero, List.getElem?_cons_succ, List.getElem?_nil, sq_tup, sq_lst, isq_tup, isq_lst, len_tup, len_lst, add_int, le_int, lt_int, ge_int, gt_int, vals_c1, vals_c0, vals_st1, vals_st0, any_bl, all_bl, ix_t0, ix_t1, ix_t2, -getElem?_pos, hf, hI]) [sv (tT C), none, none] rfl
  have hl' : ¬ (24 : Int) < C.length := by omega
  simp [cfOf, startE, fin_, outsOf, retag, findTag, dRet, dSeq, dEnd, dNever, dIte, dIf, dDrop, dFld, dSet, toB, dC, dName, dBl, dNot, dAnd, dOr, tAndD, tOrD, tNotD, dTru, dBoolC, boolD, dIsi, dIsi2, dIsC, tyN, isN, d2, d3, oV, oPl, aNil, aCons, aStar, argB, argsB, ownPl, nodupB, wb, wb1, dCall, dMeth, oMake, oMake0, dSetFld, res, resAll, bV_val, bV_own, tD_lst, tD_ins, vals, dL, dLV, dTup, dLst, oLst, sz, ofO, i0D, iD, truD, dFz, R.bind, dAsg, gTp, gsCons, gsNil, gNm, dPar, setAll, dAug, dSetIx, isOwn, dApp, dFor, iVals, iRes, iSeq, dSl, pNo, pSome, dNeg, fdivD, modD, powD, mulA, mulI, absD, intD, max2D, min2D, max3D, min3D, isND, notND, dRaise, dDict, okP, flp, sq_tIs, sq_fIs, sq_tT, sq_lT, sq_tB, sq_lB, isq_tIs, isq_fIs, isq_tT, isq_lT, isq_tB, isq_lB, len_tIs, len_fIs, len_tT, len_lT, len_tB, len_lB, en_tIs, en_fIs, en_tT, en_lT, en_tB, en_lB, tup_tIs, tup_fIs, tup_tT, tup_lT, tup_tB, tup_lB, lst_tIs, lst_fIs, lst_tT, lst_lT, lst_tB, lst_lB, Tg_0, Tg_1, f_tIs, f_fIs, f_tT, f_lT, f_tB, f_lB, List.getElem?_set, List.getElem?_cons_zero, List.getElem?_cons_succ, List.getElem?_nil, sq_tup, sq_lst, isq_tup, isq_lst, len_tup, len_lst, add_int, le_int, lt_int, ge_int, gt_int, vals_c1, vals_c0, vals_st1, vals_st0, any_bl, all_bl, ix_t0, ix_t1, ix_t2, -getElem?_pos, F_check_comes, D_check_comes, f_is_row_T, vv_MOST_COMES, h1, hl']
theorem f_is_memory {m : Me} (h : m.ok) : F_is_memory [.val m.d] = .ok [none] (.bl true) := by
  cases m with
  | all => kernel_rfl
  | last => kernel_rfl
  | win w =>
    have e0 : eqD (.tup [.str "window", .int w]) (.tup []) = some (.bl false) := eqD_of (fine_of (n := 1) (by kernel_rfl) (by simp [D.py, D.pys, PyData.depth, PyData.depthAll])) (fine_of (n := 1) rfl (by simp [D.py, D.pys, PyData.depth, PyData.depthAll])) rfl
    have e1 : eqD (.str "window") (.str "window") = some (.bl true) := by kernel_rfl
    have h' : w ≤ 12 := h
    have e2 : ixD (.tup [.str "window", .int w]) (.int 0) = some (.str "window") := rfl
    have e3 : ixD (.tup [.str "window", .int w]) (.int 1) = some (.int w) := rfl
    simp [cfOf, startE, fin_, outsOf, retag, findTag, dRet, dSeq, dEnd, dNever, dIte, dIf, dDrop, dFld, dSet, toB, dC, dName, dBl, dNot, dAnd, dOr, tAndD, tOrD, tNotD, dTru, dBoolC, boolD, dIsi, dIsi2, dIsC, tyN, isN, d2, d3, oV, oPl, aNil, aCons, aStar, seqOf, argB, argsB, ownPl, nodupB, wb, wb1, dCall, dMeth, oMake, oMake0, dSetFld, res, resAll, bV_val, bV_own, tD_lst, tD_ins, vals, dL, dLV, dTup, dLst, oLst, sz, ofO, leD, ltD, gtD, geD, i0D, iD, truD, isSq, lenD, dFz, R.bind, dAsg, gTp, gsCons, gsNil, gNm, dPar, setAll, dAug, dSetIx, isOwn, dApp, dFor, iVals, iRes, iSeq, dSl, pNo, pSome, cutD, dNeg, fdivD, modD, powD, mulA, mulI, addD, absD, intD, max2D, min2D, max3D, min3D, isND, notND, dRaise, dTM, ixD2, keyD, getK, dDict, okP, flp, F_is_memory, D_is_memory, Me.d, e0, e1, e2, e3, eq_int, f_is_number, vv_MOST_WINDOW, h', show (w : Int) ≤ 12 by omega]
theorem f_check_memory {m : Me} (h : m.ok) : F_check_memory [.val m.d] = .ok [none] .non := by
  have := f_is_memory h
  generalize m.d = M at *
  simp [cfOf, startE, fin_, outsOf, retag, findTag, dRet, dSeq, dEnd, dNever, dIte, dIf, dDrop, dFld, dSet, toB, dC, dName, dBl, dNot, dAnd, dOr, tAndD, tOrD, tNotD, dTru, dBoolC, boolD, dIsi, dIsi2, dIsC, tyN, isN, d2, d3, oV, oPl, aNil, aCons, aStar, seqOf, argB, argsB, ownPl, nodupB, wb, wb1, dCall, dMeth, oMake, oMake0, dSetFld, res, resAll, bV_val, bV_own, tD_lst, tD_ins, vals, dL, dLV, dTup, dLst, oLst, sz, ofO, leD, ltD, gtD, geD, i0D, iD, truD, isSq, lenD, dFz, R.bind, dAsg, gTp, gsCons, gsNil, gNm, dPar, setAll, dAug, dSetIx, isOwn, dApp, dFor, iVals, iRes, iSeq, dSl, pNo, pSome, cutD, dNeg, fdivD, modD, powD, mulA, mulI, addD, absD, intD, max2D, min2D, max3D, min3D, isND, notND, dRaise, dTM, ixD2, keyD, getK, dDict, okP, flp, F_check_memory, D_check_memory, this]
theorem f_check_crowd {L : List Int} {t g : Int} (l1 : 1 ≤ L.length) (l2 : L.length ≤ 4) (h : ∀ z ∈ L, 0 ≤ z ∧ z ≤ 3) (t1 : 1 ≤ t) (t2 : t ≤ 3) (g1 : 0 ≤ g) (g2 : g ≤ 12) : F_check_crowd [.val (tIs L), iv t, iv g] = .ok [none, none, none] .non := by
  obtain ⟨ρ', h1, h2, h3, h4⟩ := fl_inv (g := gTp (gsCons (gNm 3) (gsCons (gNm 4) gsNil))) (body := dIte (tNotD (dTru M_bool (oV (dCall F_is_number (aCons (oPl 4) (aCons (oV (dC (.int 0))) (aCons (oV (dC (.int 3))) aNil))))))) (dRaise 0 2 (aCons (oV (dC (.str "lengths"))) (aCons (oV (dName 3)) aNil))) (dEnd .nx)) (fun ρ => ρ.length = 5 ∧ ρ[1]? = some (some (iv t)) ∧ ρ[2]? = some (some (iv g))) ((enL 0 L).map fun p => .tup [.int p.1, .int p.2]) (fun d hd ρ hI => by
      obtain ⟨p, hp, rfl⟩ := List.mem_map.mp hd
      obtain ⟨i, _, hp⟩ := enL_mem hp
      have ht := h p.2 (List.mem_of_getElem? hp)
      refine ⟨(ρ.set 3 (sv (.int p.1))).set 4 (sv (.int p.2)), (ρ.set 3 (sv (.int p.1))).set 4 (sv (.int p.2)), by simp [gTp, gsCons, gNm, gsNil], ?_, by simp [sq_tIs, sq_fIs, sq_tT, sq_lT, sq_tB, sq_lB, isq_tIs, isq_fIs, isq_tT, isq_lT, isq_tB, isq_lB, len_tIs, len_fIs, len_tT, len_lT, len_tB, len_lB, en_tIs, en_fIs, en_tT, en_lT, en_tB, en_lB, tup_tIs, tup_fIs, tup_tT, tup_lT, tup_tB, tup_lB, lst_tIs, lst_fIs, lst_tT, lst_lT, lst_tB, lst_lB, Tg_0, Tg_1, f_tIs, f_fIs, f_tT, f_lT, f_tB, f_lB, List.getElem?_set, List.getElem?_cons_zero, List.getElem?_cons_succ, List.getElem?_nil, -getElem?_pos, hI]⟩
      simp [cfOf, startE, fin_, outsOf, retag, findTag, dRet, dSeq, dEnd, dNever, dIte, dIf, dDrop, dFld, dSet, toB, dC, dName, dBl, dNot, dAnd, dOr, tAndD, tOrD, tNotD, dTru, dBoolC, boolD, dIsi, dIsi2, dIsC, tyN, isN, d2, d3, oV, oPl, aNil, aCons, aStar, argB, argsB, ownPl, nodupB, wb, wb1, dCall, dMeth, oMake, oMake0, dSetFld, res, resAll, bV_val, bV_own, tD_lst, tD_ins, vals, dL, dLV, dTup, dLst, oLst, sz, ofO, i0D, iD, truD, dFz, R.bind, dAsg, gTp, gsCons, gsNil, gNm, dPar, setAll, dAug, dSetIx, isOwn, dApp, dFor, iVals, iRes, iSeq, dSl, pNo, pSome, dNeg, fdivD, modD, powD, mulA, mulI, absD, intD, max2D, min2D, max3D, min3D, isND, notND, dRaise, dDict, okP, flp, sq_tIs, sq_fIs, sq_tT, sq_lT, sq_tB, sq_lB, isq_tIs, isq_fIs, isq_tT, isq_lT, isq_tB, isq_lB, len_tIs, len_fIs, len_tT, len_lT, len_tB, len_lB, en_tIs, en_fIs, en_tT, en_lT, en_tB, en_lB, tup_tIs, tup_fIs, tup_tT, tup_lT, tup_tB, tup_lB, lst_tIs, lst_fIs, lst_tT, lst_lT, lst_tB, lst_lB, Tg_0, Tg_1, f_tIs, f_fIs, f_tT, f_lT, f_tB, f_lB, List.getElem?_set, List.getElem?_cons_zero, List.getElem?_cons_succ, List.getElem?_nil, sq_tup, sq_lst, isq_tup, isq_lst, len_tup, len_lst, add_int, le_int, lt_int, ge_int, gt_int, vals_c1, vals_c0, vals_st1, vals_st0, any_bl, all_bl, ix_t0, ix_t1, ix_t2, -getElem?_pos, f_is_number, ht, hI]) [sv (tIs L), some (iv t), some (iv g), none, none] ⟨rfl, rfl, rfl⟩
  have a1 : (1 : Int) ≤ L.length := by omega
  have a2 : (L.length : Int) ≤ 4 := by omega
  simp [cfOf, startE, fin_, outsOf, retag, findTag, dRet, dSeq, dEnd, dNever, dIte, dIf, dDrop, dFld, dSet, toB, dC, dName, dBl, dNot, dAnd, dOr, tAndD, tOrD, tNotD, dTru, dBoolC, boolD, dIsi, dIsi2, dIsC, tyN, isN, d2, d3, oV, oPl, aNil, aCons, aStar, argB, argsB, ownPl, nodupB, wb, wb1, dCall, dMeth, oMake, oMake0, dSetFld, res, resAll, bV_val, bV_own, tD_lst, tD_ins, vals, dL, dLV, dTup, dLst, oLst, sz, ofO, i0D, iD, truD, dFz, R.bind, dAsg, gTp, gsCons, gsNil, gNm, dPar, setAll, dAug, dSetIx, isOwn, dApp, dFor, iVals, iRes, iSeq, dSl, pNo, pSome, dNeg, fdivD, modD, powD, mulA, mulI, absD, intD, max2D, min2D, max3D, min3D, isND, notND, dRaise, dDict, okP, flp, sq_tIs, sq_fIs, sq_tT, sq_lT, sq_tB, sq_lB, isq_tIs, isq_fIs, isq_tT, isq_lT, isq_tB, isq_lB, len_tIs, len_fIs, len_tT, len_lT, len_tB, len_lB, en_tIs, en_fIs, en_tT, en_lT, en_tB, en_lB, tup_tIs, tup_fIs, tup_tT, tup_lT, tup_tB, tup_lB, lst_tIs, lst_fIs, lst_tT, lst_lT, lst_tB, lst_lB, Tg_0, Tg_1, f_tIs, f_fIs, f_tT, f_lT, f_tB, f_lB, List.getElem?_set, List.getElem?_cons_zero, List.getElem?_cons_succ, List.getElem?_nil, sq_tup, sq_lst, isq_tup, isq_lst, len_tup, len_lst, add_int, le_int, lt_int, ge_int, gt_int, vals_c1, vals_c0, vals_st1, vals_st0, any_bl, all_bl, ix_t0, ix_t1, ix_t2, -getElem?_pos, F_check_crowd, D_check_crowd, f_is_row_I, vv_MOST_CLIENTS, vv_MOST_WINDOW, h1, h3, h4, a1, a2, f_is_number, t1, t2, g1, g2]
end A
end
section
namespace A
open PySem Zd
set_option autoImplicit false
abbrev Pt := Int × Int
def kn : Me → List Pt → Pt → Bool
  | .all, E, t => decide (t ∈ E)
  | .last, E, t => E.any fun l => decide (l.1 = t.1) && decide (t.2 ≤ l.2)
  | .win w, E, t => decide (t ∈ E.drop (E.length - w))
def run (m : Me) : List Pt → List Pt → List Bool
  | _, [] => []
  | E, t :: C => (!kn m E t) :: run m (if kn m E t = true then E else E ++ [t]) C
theorem run_len (m : Me) : ∀ (C E : List Pt), (run m E C).length = C.length
  | [], _ => rfl
  | t :: C, E => by simp [run, run_len m C]
/-- the law's loop stands so -/
structure LD (m : Me) (E : List Pt) (F : List Bool) (ρ : Zd.Env) : Prop where
  len : ρ.length = 9
  m0 : ρ[0]? = some (sv m.d)
  e2 : ∃ b, ρ[2]? = some (some b) ∧ bVal b = lT E
  f3 : ∃ b, ρ[3]? = some (some b) ∧ bVal b = lB F
  no : noOwn ρ [6, 7] = true
def ldB1 : DEn := dL anyD (aCons (oLc (iSeq (dName 2)) [6, 7] (gTp (gsCons (gNm 6) (gsCons (gNm 7) gsNil))) tTrue (dAnd (d2 eqD (oPl 6) (oPl 4)) (d2 geD (oPl 7) (oPl 5)))) aNil)
theorem ld_any {m : Me} {E : List Pt} {F : List Bool} {ρ : Zd.Env} {c n : Int} (h : LD m E F ρ) (h4 : ρ[4]? = some (some (iv c))) (h5 : ρ[5]? = some (some (iv n))) (hE : E.length ≤ 1000) :
    ∃ ρ', ldB1 ρ = .ok (ρ', .bl (E.any fun l => decide (l.1 = c) && decide (n ≤ l.2))) ∧ LD m E F ρ' ∧ ρ'[4]? = some (some (iv c)) ∧ ρ'[5]? = some (some (iv n)) := by
  obtain ⟨b, hb, hv⟩ := h.e2
  have key : ∀ ρ' : Zd.Env, iSeq (dName 2) ρ = .ok (ρ', E.map Tg) → LD m E F ρ' → ρ'[4]? = some (some (iv c)) → ρ'[5]? = some (some (iv n)) → ∃ ρ', ldB1 ρ = .ok (ρ', .bl (E.any fun l => decide (l.1 = c) && decide (n ≤ l.2))) ∧ LD m E F ρ' ∧ ρ'[4]? = some (some (iv c)) ∧ ρ'[5]? = some (some (iv n)) := fun ρ' hd hi h4 h5 => by
    have hl := hi.len
    have q := lc_2 (v := 6) (w := 7) (t := tTrue) (c := dAnd (d2 eqD (oPl 6) (oPl 4)) (d2 geD (oPl 7) (oPl 5))) (L := E) (fun x => .int x.1) (fun x => .int x.2) (fun _ => true) (fun x => .bl (decide (x.1 = c) && decide (n ≤ x.2))) (by omega) (by omega) (by decide) hi.no hd (fun x _ => rfl)
      (fun x _ _ => by
        by_cases hx : x.1 = c <;> simp [cfOf, startE, fin_, outsOf, retag, findTag, dRet, dSeq, dEnd, dNever, dIte, dIf, dDrop, dFld, dSet, toB, dC, dName, dBl, dNot, dAnd, dOr, tAndD, tOrD, tNotD, dTru, dBoolC, boolD, dIsi, dIsi2, dIsC, tyN, isN, d2, d3, oV, oPl, aNil, aCons, aStar, argB, argsB, ownPl, nodupB, wb, wb1, dCall, dMeth, oMake, oMake0, dSetFld, res, resAll, bV_val, bV_own, tD_lst, tD_ins, vals, dL, dLV, dTup, dLst, oLst, sz, ofO, i0D, iD, truD, dFz, R.bind, dAsg, gTp, gsCons, gsNil, gNm, dPar, setAll, dAug, dSetIx, isOwn, dApp, dFor, iVals, iRes, iSeq, dSl, pNo, pSome, dNeg, fdivD, modD, powD, mulA, mulI, absD, intD, max2D, min2D, max3D, min3D, isND, notND, dRaise, dDict, okP, flp, sq_tIs, sq_fIs, sq_tT, sq_lT, sq_tB, sq_lB, isq_tIs, isq_fIs, isq_tT, isq_lT, isq_tB, isq_lB, len_tIs, len_fIs, len_tT, len_lT, len_tB, len_lB, en_tIs, en_fIs, en_tT, en_lT, en_tB, en_lB, tup_tIs, tup_fIs, tup_tT, tup_lT, tup_tB, tup_lB, lst_tIs, lst_fIs, lst_tT, lst_lT, lst_tB, lst_lB, Tg_0, Tg_1, f_tIs, f_fIs, f_tT, f_lT, f_tB, f_lB, List.getElem?_set, List.getElem?_cons_zero, List.getElem?_cons_succ, List.getElem?_nil, sq_tup, sq_lst, isq_tup, isq_lst, len_tup, len_lst, add_int, le_int, lt_int, ge_int, gt_int, vals_c1, vals_c0, vals_st1, vals_st0, any_bl, all_bl, ix_t0, ix_t1, ix_t2, -getElem?_pos, h4, h5, hl, eq_int, hx]) (by omega)
    have hf : E.filter (fun _ => true) = E := by simp
    rw [hf] at q
    exact ⟨ρ', any_of _ q, hi, h4, h5⟩
  cases b with
  | val d =>
    have hv : d = lT E := hv
    exact key ρ (by simp [cfOf, startE, fin_, outsOf, retag, findTag, dRet, dSeq, dEnd, dNever, dIte, dIf, dDrop, dFld, dSet, toB, dC, dName, dBl, dNot, dAnd, dOr, tAndD, tOrD, tNotD, dTru, dBoolC, boolD, dIsi, dIsi2, dIsC, tyN, isN, d2, d3, oV, oPl, aNil, aCons, aStar, argB, argsB, ownPl, nodupB, wb, wb1, dCall, dMeth, oMake, oMake0, dSetFld, res, resAll, bV_val, bV_own, tD_lst, tD_ins, vals, dL, dLV, dTup, dLst, oLst, sz, ofO, i0D, iD, truD, dFz, R.bind, dAsg, gTp, gsCons, gsNil, gNm, dPar, setAll, dAug, dSetIx, isOwn, dApp, dFor, iVals, iRes, iSeq, dSl, pNo, pSome, dNeg, fdivD, modD, powD, mulA, mulI, absD, intD, max2D, min2D, max3D, min3D, isND, notND, dRaise, dDict, okP, flp, sq_tIs, sq_fIs, sq_tT, sq_lT, sq_tB, sq_lB, isq_tIs, isq_fIs, isq_tT, isq_lT, isq_tB, isq_lB, len_tIs, len_fIs, len_tT, len_lT, len_tB, len_lB, en_tIs, en_fIs, en_tT, en_lT, en_tB, en_lB, tup_tIs, tup_fIs, tup_tT, tup_lT, tup_tB, tup_lB, lst_tIs, lst_fIs, lst_tT, lst_lT, lst_tB, lst_lB, Tg_0, Tg_1, f_tIs, f_fIs, f_tT, f_lT, f_tB, f_lB, List.getElem?_set, List.getElem?_cons_zero, List.getElem?_cons_succ, List.getElem?_nil, sq_tup, sq_lst, isq_tup, isq_lst, len_tup, len_lst, add_int, le_int, lt_int, ge_int, gt_int, vals_c1, vals_c0, vals_st1, vals_st0, any_bl, all_bl, ix_t0, ix_t1, ix_t2, -getElem?_pos, hb, hv]) h h4 h5
  | own t o =>
    have hv : o.toD = lT E := hv
    refine key (ρ.set 2 (sv (lT E))) (by simp [cfOf, startE, fin_, outsOf, retag, findTag, dRet, dSeq, dEnd, dNever, dIte, dIf, dDrop, dFld, dSet, toB, dC, dName, dBl, dNot, dAnd, dOr, tAndD, tOrD, tNotD, dTru, dBoolC, boolD, dIsi, dIsi2, dIsC, tyN, isN, d2, d3, oV, oPl, aNil, aCons, aStar, argB, argsB, ownPl, nodupB, wb, wb1, dCall, dMeth, oMake, oMake0, dSetFld, res, resAll, bV_val, bV_own, tD_lst, tD_ins, vals, dL, dLV, dTup, dLst, oLst, sz, ofO, i0D, iD, truD, dFz, R.bind, dAsg, gTp, gsCons, gsNil, gNm, dPar, setAll, dAug, dSetIx, isOwn, dApp, dFor, iVals, iRes, iSeq, dSl, pNo, pSome, dNeg, fdivD, modD, powD, mulA, mulI, absD, intD, max2D, min2D, max3D, min3D, isND, notND, dRaise, dDict, okP, flp, sq_tIs, sq_fIs, sq_tT, sq_lT, sq_tB, sq_lB, isq_tIs, isq_fIs, isq_tT, isq_lT, isq_tB, isq_lB, len_tIs, len_fIs, len_tT, len_lT, len_tB, len_lB, en_tIs, en_fIs, en_tT, en_lT, en_tB, en_lB, tup_tIs, tup_fIs, tup_tT, tup_lT, tup_tB, tup_lB, lst_tIs, lst_fIs, lst_tT, lst_lT, lst_tB, lst_lB, Tg_0, Tg_1, f_tIs, f_fIs, f_tT, f_lT, f_tB, f_lB, List.getElem?_set, List.getElem?_cons_zero, List.getElem?_cons_succ, List.getElem?_nil, sq_tup, sq_lst, isq_tup, isq_lst, len_tup, len_lst, add_int, le_int, lt_int, ge_int, gt_int, vals_c1, vals_c0, vals_st1, vals_st0, any_bl, all_bl, ix_t0, ix_t1, ix_t2, -getElem?_pos, hb, hv]) ⟨by simp [h.len], by simp [cfOf, startE, fin_, outsOf, retag, findTag, dRet, dSeq, dEnd, dNever, dIte, dIf, dDrop, dFld, dSet, toB, dC, dName, dBl, dNot, dAnd, dOr, tAndD, tOrD, tNotD, dTru, dBoolC, boolD, dIsi, dIsi2, dIsC, tyN, isN, d2, d3, oV, oPl, aNil, aCons, aStar, argB, argsB, ownPl, nodupB, wb, wb1, dCall, dMeth, oMake, oMake0, dSetFld, res, resAll, bV_val, bV_own, tD_lst, tD_ins, vals, dL, dLV, dTup, dLst, oLst, sz, ofO, i0D, iD, truD, dFz, R.bind, dAsg, gTp, gsCons, gsNil, gNm, dPar, setAll, dAug, dSetIx, isOwn, dApp, dFor, iVals, iRes, iSeq, dSl, pNo, pSome, dNeg, fdivD, modD, powD, mulA, mulI, absD, intD, max2D, min2D, max3D, min3D, isND, notND, dRaise, dDict, okP, flp, sq_tIs, sq_fIs, sq_tT, sq_lT, sq_tB, sq_lB, isq_tIs, isq_fIs, isq_tT, isq_lT, isq_tB, isq_lB, len_tIs, len_fIs, len_tT, len_lT, len_tB, len_lB, en_tIs, en_fIs, en_tT, en_lT, en_tB, en_lB, tup_tIs, tup_fIs, tup_tT, tup_lT, tup_tB, tup_lB, lst_tIs, lst_fIs, lst_tT, lst_lT, lst_tB, lst_lB, Tg_0, Tg_1, f_tIs, f_fIs, f_tT, f_lT, f_tB, f_lB, List.getElem?_set, List.getElem?_cons_zero, List.getElem?_cons_succ, List.getElem?_nil, sq_tup, sq_lst, isq_tup, isq_lst, len_tup, len_lst, add_int, le_int, lt_int, ge_int, gt_int, vals_c1, vals_c0, vals_st1, vals_st0, any_bl, all_bl, ix_t0, ix_t1, ix_t2, -getElem?_pos, h.m0], ⟨.val (lT E), by simp [cfOf, startE, fin_, outsOf, retag, findTag, dRet, dSeq, dEnd, dNever, dIte, dIf, dDrop, dFld, dSet, toB, dC, dName, dBl, dNot, dAnd, dOr, tAndD, tOrD, tNotD, dTru, dBoolC, boolD, dIsi, dIsi2, dIsC, tyN, isN, d2, d3, oV, oPl, aNil, aCons, aStar, argB, argsB, ownPl, nodupB, wb, wb1, dCall, dMeth, oMake, oMake0, dSetFld, res, resAll, bV_val, bV_own, tD_lst, tD_ins, vals, dL, dLV, dTup, dLst, oLst, sz, ofO, i0D, iD, truD, dFz, R.bind, dAsg, gTp, gsCons, gsNil, gNm, dPar, setAll, dAug, dSetIx, isOwn, dApp, dFor, iVals, iRes, iSeq, dSl, pNo, pSome, dNeg, fdivD, modD, powD, mulA, mulI, absD, intD, max2D, min2D, max3D, min3D, isND, notND, dRaise, dDict, okP, flp, sq_tIs, sq_fIs, sq_tT, sq_lT, sq_tB, sq_lB, isq_tIs, isq_fIs, isq_tT, isq_lT, isq_tB, isq_lB, len_tIs, len_fIs, len_tT, len_lT, len_tB, len_lB, en_tIs, en_fIs, en_tT, en_lT, en_tB, en_lB, tup_tIs, tup_fIs, tup_tT, tup_lT, tup_tB, tup_lB, lst_tIs, lst_fIs, lst_tT, lst_lT, lst_tB, lst_lB, Tg_0, Tg_1, f_tIs, f_fIs, f_tT, f_lT, f_tB, f_lB, List.getElem?_set, List.getElem?_cons_zero, List.getElem?_cons_succ, List.getElem?_nil, sq_tup, sq_lst, isq_tup, isq_lst, len_tup, len_lst, add_int, le_int, lt_int, ge_int, gt_int, vals_c1, vals_c0, vals_st1, vals_st0, any_bl, all_bl, ix_t0, ix_t1, ix_t2, -getElem?_pos, h.len], rfl⟩, ?_, noOwn_set rfl h.no⟩ (by simp [cfOf, startE, fin_, outsOf, retag, findTag, dRet, dSeq, dEnd, dNever, dIte, dIf, dDrop, dFld, dSet, toB, dC, dName, dBl, dNot, dAnd, dOr, tAndD, tOrD, tNotD, dTru, dBoolC, boolD, dIsi, dIsi2, dIsC, tyN, isN, d2, d3, oV, oPl, aNil, aCons, aStar, argB, argsB, ownPl, nodupB, wb, wb1, dCall, dMeth, oMake, oMake0, dSetFld, res, resAll, bV_val, bV_own, tD_lst, tD_ins, vals, dL, dLV, dTup, dLst, oLst, sz, ofO, i0D, iD, truD, dFz, R.bind, dAsg, gTp, gsCons, gsNil, gNm, dPar, setAll, dAug, dSetIx, isOwn, dApp, dFor, iVals, iRes, iSeq, dSl, pNo, pSome, dNeg, fdivD, modD, powD, mulA, mulI, absD, intD, max2D, min2D, max3D, min3D, isND, notND, dRaise, dDict, okP, flp, sq_tIs, sq_fIs, sq_tT, sq_lT, sq_tB, sq_lB, isq_tIs, isq_fIs, isq_tT, isq_lT, isq_tB, isq_lB, len_tIs, len_fIs, len_tT, len_lT, len_tB, len_lB, en_tIs, en_fIs, en_tT, en_lT, en_tB, en_lB, tup_tIs, tup_fIs, tup_tT, tup_lT, tup_tB, tup_lB, lst_tIs, lst_fIs, lst_tT, lst_lT, lst_tB, lst_lB, Tg_0, Tg_1, f_tIs, f_fIs, f_tT, f_lT, f_tB, f_lB, List.getElem?_set, List.getElem?_cons_zero, List.getElem?_cons_succ, List.getElem?_nil, sq_tup, sq_lst, isq_tup, isq_lst, len_tup, len_lst, add_int, le_int, lt_int, ge_int, gt_int, vals_c1, vals_c0, vals_st1, vals_st0, any_bl, all_bl, ix_t0, ix_t1, ix_t2, -getElem?_pos, h4]) (by simp [cfOf, startE, fin_, outsOf, retag, findTag, dRet, dSeq, dEnd, dNever, dIte, dIf, dDrop, dFld, dSet, toB, dC, dName, dBl, dNot, dAnd, dOr, tAndD, tOrD, tNotD, dTru, dBoolC, boolD, dIsi, dIsi2, dIsC, tyN, isN, d2, d3, oV, oPl, aNil, aCons, aStar, argB, argsB, ownPl, nodupB, wb, wb1, dCall, dMeth, oMake, oMake0, dSetFld, res, resAll, bV_val, bV_own, tD_lst, tD_ins, vals, dL, dLV, dTup, dLst, oLst, sz, ofO, i0D, iD, truD, dFz, R.bind, dAsg, gTp, gsCons, gsNil, gNm, dPar, setAll, dAug, dSetIx, isOwn, dApp, dFor, iVals, iRes, iSeq, dSl, pNo, pSome, dNeg, fdivD, modD, powD, mulA, mulI, absD, intD, max2D, min2D, max3D, min3D, isND, notND, dRaise, dDict, okP, flp, sq_tIs, sq_fIs, sq_tT, sq_lT, sq_tB, sq_lB, isq_tIs, isq_fIs, isq_tT, isq_lT, isq_tB, isq_lB, len_tIs, len_fIs, len_tT, len_lT, len_tB, len_lB, en_tIs, en_fIs, en_tT, en_lT, en_tB, en_lB, tup_tIs, tup_fIs, tup_tT, tup_lT, tup_tB, tup_lB, lst_tIs, lst_fIs, lst_tT, lst_lT, lst_tB, lst_lB, Tg_0, Tg_1, f_tIs, f_fIs, f_tT, f_lT, f_tB, f_lB, List.getElem?_set, List.getElem?_cons_zero, List.getElem?_cons_succ, List.getElem?_nil, sq_tup, sq_lst, isq_tup, isq_lst, len_tup, len_lst, add_int, le_int, lt_int, ge_int, gt_int, vals_c1, vals_c0, vals_st1, vals_st0, any_bl, all_bl, ix_t0, ix_t1, ix_t2, -getElem?_pos, h5])
    obtain ⟨b3, q1, q2⟩ := h.f3
    exact ⟨b3, by simp [cfOf, startE, fin_, outsOf, retag, findTag, dRet, dSeq, dEnd, dNever, dIte, dIf, dDrop, dFld, dSet, toB, dC, dName, dBl, dNot, dAnd, dOr, tAndD, tOrD, tNotD, dTru, dBoolC, boolD, dIsi, dIsi2, dIsC, tyN, isN, d2, d3, oV, oPl, aNil, aCons, aStar, argB, argsB, ownPl, nodupB, wb, wb1, dCall, dMeth, oMake, oMake0, dSetFld, res, resAll, bV_val, bV_own, tD_lst, tD_ins, vals, dL, dLV, dTup, dLst, oLst, sz, ofO, i0D, iD, truD, dFz, R.bind, dAsg, gTp, gsCons, gsNil, gNm, dPar, setAll, dAug, dSetIx, isOwn, dApp, dFor, iVals, iRes, iSeq, dSl, pNo, pSome, dNeg, fdivD, modD, powD, mulA, mulI, absD, intD, max2D, min2D, max3D, min3D, isND, notND, dRaise, dDict, okP, flp, sq_tIs, sq_fIs, sq_tT, sq_lT, sq_tB, sq_lB, isq_tIs, isq_fIs, isq_tT, isq_lT, isq_tB, isq_lB, len_tIs, len_fIs, len_tT, len_lT, len_tB, len_lB, en_tIs, en_fIs, en_tT, en_lT, en_tB, en_lB, tup_tIs, tup_fIs, tup_tT, tup_lT, tup_tB, tup_lB, lst_tIs, lst_fIs, lst_tT, lst_lT, lst_tB, lst_lB, Tg_0, Tg_1, f_tIs, f_fIs, f_tT, f_lT, f_tB, f_lB, List.getElem?_set, List.getElem?_cons_zero, List.getElem?_cons_succ, List.getElem?_nil, sq_tup, sq_lst, isq_tup, isq_lst, len_tup, len_lst, add_int, le_int, lt_int, ge_int, gt_int, vals_c1, vals_c0, vals_st1, vals_st0, any_bl, all_bl, ix_t0, ix_t1, ix_t2, -getElem?_pos, q1], q2⟩

def ldBody : DSn := (dSeq (dIte (dBl (d2 eqD (oV (d2 ixD (oPl 0) (oV (dC (.int 0))))) (oV (dC (.str "last"))))) (dSet 8 (oV ldB1)) (dIte (dBl (d2 eqD (oV (d2 ixD (oPl 0) (oV (dC (.int 0))))) (oV (dC (.str "window"))))) (dSet 8 (oV (d2 (inD false) (oV (dTup (aCons (oV (dName 4)) (aCons (oV (dName 5)) aNil)))) (oV (dIf (dBl (d2 gtD (oV (d2 ixD (oPl 0) (oV (dC (.int 1))))) (oV (dC (.int 0))))) (dSl (oPl 2) (pSome (dNeg (oV (d2 ixD (oPl 0) (oV (dC (.int 1))))))) pNo) (dLst aNil)))))) (dSet 8 (oV (d2 (inD false) (oV (dTup (aCons (oV (dName 4)) (aCons (oV (dName 5)) aNil)))) (oPl 2))))))
    (dPar [3, 2] (aCons (oV (d2 addD (oPl 3) (oLst (aCons (oV (dNot (dBl (dName 8)))) aNil)))) (aCons (oV (d2 addD (oPl 2) (oV (dIf (dTru M_bool (oPl 8)) (dLst aNil) (dLst (aCons (oV (dTup (aCons (oV (dName 4)) (aCons (oV (dName 5)) aNil)))) aNil)))))) aNil))))
theorem ld_known {m : Me} {E : List Pt} {F : List Bool} {ρ : Zd.Env} {t : Pt} (h : LD m E F ρ) (h4 : ρ[4]? = some (some (iv t.1))) (h5 : ρ[5]? = some (some (iv t.2))) (hE : E.length ≤ 1000) (a b : DSn)
    (ha : a = dIte (dBl (d2 eqD (oV (d2 ixD (oPl 0) (oV (dC (.int 0))))) (oV (dC (.str "last"))))) (dSet 8 (oV ldB1)) (dIte (dBl (d2 eqD (oV (d2 ixD (oPl 0) (oV (dC (.int 0))))) (oV (dC (.str "window"))))) (dSet 8 (oV (d2 (inD false) (oV (dTup (aCons (oV (dName 4)) (aCons (oV (dName 5)) aNil)))) (oV (dIf (dBl (d2 gtD (oV (d2 ixD (oPl 0) (oV (dC (.int 1))))) (oV (dC (.int 0))))) (dSl (oPl 2) (pSome (dNeg (oV (d2 ixD (oPl 0) (oV (dC (.int 1))))))) pNo) (dLst aNil)))))) (dSet 8 (oV (d2 (inD false) (oV (dTup (aCons (oV (dName 4)) (aCons (oV (dName 5)) aNil)))) (oPl 2)))))) :
    ∃ ρ', a ρ = .ok (ρ', .nx) ∧ LD m E F ρ' ∧ ρ'[4]? = some (some (iv t.1)) ∧ ρ'[5]? = some (some (iv t.2)) ∧ ρ'[8]? = some (sv (.bl (kn m E t))) := by
  subst ha
  have keep : ∀ (ρ : Zd.Env) (x : D), LD m E F ρ → ρ[4]? = some (some (iv t.1)) → ρ[5]? = some (some (iv t.2)) → LD m E F (ρ.set 8 (sv x)) ∧ (ρ.set 8 (sv x))[4]? = some (some (iv t.1)) ∧ (ρ.set 8 (sv x))[5]? = some (some (iv t.2)) ∧ (ρ.set 8 (sv x))[8]? = some (sv x) := fun ρ x h h4 h5 => by
    obtain ⟨b2, q1, q2⟩ := h.e2
    obtain ⟨b3, q3, q4⟩ := h.f3
    have hl := h.len
    exact ⟨⟨by simp [hl], by simp [cfOf, startE, fin_, outsOf, retag, findTag, dRet, dSeq, dEnd, dNever, dIte, dIf, dDrop, dFld, dSet, toB, dC, dName, dBl, dNot, dAnd, dOr, tAndD, tOrD, tNotD, dTru, dBoolC, boolD, dIsi, dIsi2, dIsC, tyN, isN, d2, d3, oV, oPl, aNil, aCons, aStar, argB, argsB, ownPl, nodupB, wb, wb1, dCall, dMeth, oMake, oMake0, dSetFld, res, resAll, bV_val, bV_own, tD_lst, tD_ins, vals, dL, dLV, dTup, dLst, oLst, sz, ofO, i0D, iD, truD, dFz, R.bind, dAsg, gTp, gsCons, gsNil, gNm, dPar, setAll, dAug, dSetIx, isOwn, dApp, dFor, iVals, iRes, iSeq, dSl, pNo, pSome, dNeg, fdivD, modD, powD, mulA, mulI, absD, intD, max2D, min2D, max3D, min3D, isND, notND, dRaise, dDict, okP, flp, sq_tIs, sq_fIs, sq_tT, sq_lT, sq_tB, sq_lB, isq_tIs, isq_fIs, isq_tT, isq_lT, isq_tB, isq_lB, len_tIs, len_fIs, len_tT, len_lT, len_tB, len_lB, en_tIs, en_fIs, en_tT, en_lT, en_tB, en_lB, tup_tIs, tup_fIs, tup_tT, tup_lT, tup_tB, tup_lB, lst_tIs, lst_fIs, lst_tT, lst_lT, lst_tB, lst_lB, Tg_0, Tg_1, f_tIs, f_fIs, f_tT, f_lT, f_tB, f_lB, List.getElem?_set, List.getElem?_cons_zero, List.getElem?_cons_succ, List.getElem?_nil, sq_tup, sq_lst, isq_tup, isq_lst, len_tup, len_lst, add_int, le_int, lt_int, ge_int, gt_int, vals_c1, vals_c0, vals_st1, vals_st0, any_bl, all_bl, ix_t0, ix_t1, ix_t2, -getElem?_pos, h.m0], ⟨b2, by simp [cfOf, startE, fin_, outsOf, retag, findTag, dRet, dSeq, dEnd, dNever, dIte, dIf, dDrop, dFld, dSet, toB, dC, dName, dBl, dNot, dAnd, dOr, tAndD, tOrD, tNotD, dTru, dBoolC, boolD, dIsi, dIsi2, dIsC, tyN, isN, d2, d3, oV, oPl, aNil, aCons, aStar, argB, argsB, ownPl, nodupB, wb, wb1, dCall, dMeth, oMake, oMake0, dSetFld, res, resAll, bV_val, bV_own, tD_lst, tD_ins, vals, dL, dLV, dTup, dLst, oLst, sz, ofO, i0D, iD, truD, dFz, R.bind, dAsg, gTp, gsCons, gsNil, gNm, dPar, setAll, dAug, dSetIx, isOwn, dApp, dFor, iVals, iRes, iSeq, dSl, pNo, pSome, dNeg, fdivD, modD, powD, mulA, mulI, absD, intD, max2D, min2D, max3D, min3D, isND, notND, dRaise, dDict, okP, flp, sq_tIs, sq_fIs, sq_tT, sq_lT, sq_tB, sq_lB, isq_tIs, isq_fIs, isq_tT, isq_lT, isq_tB, isq_lB, len_tIs, len_fIs, len_tT, len_lT, len_tB, len_lB, en_tIs, en_fIs, en_tT, en_lT, en_tB, en_lB, tup_tIs, tup_fIs, tup_tT, tup_lT, tup_tB, tup_lB, lst_tIs, lst_fIs, lst_tT, lst_lT, lst_tB, lst_lB, Tg_0, Tg_1, f_tIs, f_fIs, f_tT, f_lT, f_tB, f_lB, List.getElem?_set, List.getElem?_cons_zero, List.getElem?_cons_succ, List.getElem?_nil, sq_tup, sq_lst, isq_tup, isq_lst, len_tup, len_lst, add_int, le_int, lt_int, ge_int, gt_int, vals_c1, vals_c0, vals_st1, vals_st0, any_bl, all_bl, ix_t0, ix_t1, ix_t2, -getElem?_pos, q1], q2⟩, ⟨b3, by simp [cfOf, startE, fin_, outsOf, retag, findTag, dRet, dSeq, dEnd, dNever, dIte, dIf, dDrop, dFld, dSet, toB, dC, dName, dBl, dNot, dAnd, dOr, tAndD, tOrD, tNotD, dTru, dBoolC, boolD, dIsi, dIsi2, dIsC, tyN, isN, d2, d3, oV, oPl, aNil, aCons, aStar, argB, argsB, ownPl, nodupB, wb, wb1, dCall, dMeth, oMake, oMake0, dSetFld, res, resAll, bV_val, bV_own, tD_lst, tD_ins, vals, dL, dLV, dTup, dLst, oLst, sz, ofO, i0D, iD, truD, dFz, R.bind, dAsg, gTp, gsCons, gsNil, gNm, dPar, setAll, dAug, dSetIx, isOwn, dApp, dFor, iVals, iRes, iSeq, dSl, pNo, pSome, dNeg, fdivD, modD, powD, mulA, mulI, absD, intD, max2D, min2D, max3D, min3D, isND, notND, dRaise, dDict, okP, flp, sq_tIs, sq_fIs, sq_tT, sq_lT, sq_tB, sq_lB, isq_tIs, isq_fIs, isq_tT, isq_lT, isq_tB, isq_lB, len_tIs, len_fIs, len_tT, len_lT, len_tB, len_lB, en_tIs, en_fIs, en_tT, en_lT, en_tB, en_lB, tup_tIs, tup_fIs, tup_tT, tup_lT, tup_tB, tup_lB, lst_tIs, lst_fIs, lst_tT, lst_lT, lst_tB, lst_lB, Tg_0, Tg_1, f_tIs, f_fIs, f_tT, f_lT, f_tB, f_lB, List.getElem?_set, List.getElem?_cons_zero, List.getElem?_cons_succ, List.getElem?_nil, sq_tup, sq_lst, isq_tup, isq_lst, len_tup, len_lst, add_int, le_int, lt_int, ge_int, gt_int, vals_c1, vals_c0, vals_st1, vals_st0, any_bl, all_bl, ix_t0, ix_t1, ix_t2, -getElem?_pos, q3], q4⟩, noOwn_set rfl h.no⟩, by simp [cfOf, startE, fin_, outsOf, retag, findTag, dRet, dSeq, dEnd, dNever, dIte, dIf, dDrop, dFld, dSet, toB, dC, dName, dBl, dNot, dAnd, dOr, tAndD, tOrD, tNotD, dTru, dBoolC, boolD, dIsi, dIsi2, dIsC, tyN, isN, d2, d3, oV, oPl, aNil, aCons, aStar, argB, argsB, ownPl, nodupB, wb, wb1, dCall, dMeth, oMake, oMake0, dSetFld, res, resAll, bV_val, bV_own, tD_lst, tD_ins, vals, dL, dLV, dTup, dLst, oLst, sz, ofO, i0D, iD, truD, dFz, R.bind, dAsg, gTp, gsCons, gsNil, gNm, dPar, setAll, dAug, dSetIx, isOwn, dApp, dFor, iVals, iRes, iSeq, dSl, pNo, pSome, dNeg, fdivD, modD, powD, mulA, mulI, absD, intD, max2D, min2D, max3D, min3D, isND, notND, dRaise, dDict, okP, flp, sq_tIs, sq_fIs, sq_tT, sq_lT, sq_tB, sq_lB, isq_tIs, isq_fIs, isq_tT, isq_lT, isq_tB, isq_lB, len_tIs, len_fIs, len_tT, len_lT, len_tB, len_lB, en_tIs, en_fIs, en_tT, en_lT, en_tB, en_lB, tup_tIs, tup_fIs, tup_tT, tup_lT, tup_tB, tup_lB, lst_tIs, lst_fIs, lst_tT, lst_lT, lst_tB, lst_lB, Tg_0, Tg_1, f_tIs, f_fIs, f_tT, f_lT, f_tB, f_lB, List.getElem?_set, List.getElem?_cons_zero, List.getElem?_cons_succ, List.getElem?_nil, sq_tup, sq_lst, isq_tup, isq_lst, len_tup, len_lst, add_int, le_int, lt_int, ge_int, gt_int, vals_c1, vals_c0, vals_st1, vals_st0, any_bl, all_bl, ix_t0, ix_t1, ix_t2, -getElem?_pos, h4], by simp [cfOf, startE, fin_, outsOf, retag, findTag, dRet, dSeq, dEnd, dNever, dIte, dIf, dDrop, dFld, dSet, toB, dC, dName, dBl, dNot, dAnd, dOr, tAndD, tOrD, tNotD, dTru, dBoolC, boolD, dIsi, dIsi2, dIsC, tyN, isN, d2, d3, oV, oPl, aNil, aCons, aStar, argB, argsB, ownPl, nodupB, wb, wb1, dCall, dMeth, oMake, oMake0, dSetFld, res, resAll, bV_val, bV_own, tD_lst, tD_ins, vals, dL, dLV, dTup, dLst, oLst, sz, ofO, i0D, iD, truD, dFz, R.bind, dAsg, gTp, gsCons, gsNil, gNm, dPar, setAll, dAug, dSetIx, isOwn, dApp, dFor, iVals, iRes, iSeq, dSl, pNo, pSome, dNeg, fdivD, modD, powD, mulA, mulI, absD, intD, max2D, min2D, max3D, min3D, isND, notND, dRaise, dDict, okP, flp, sq_tIs, sq_fIs, sq_tT, sq_lT, sq_tB, sq_lB, isq_tIs, isq_fIs, isq_tT, isq_lT, isq_tB, isq_lB, len_tIs, len_fIs, len_tT, len_lT, len_tB, len_lB, en_tIs, en_fIs, en_tT, en_lT, en_tB, en_lB, tup_tIs, tup_fIs, tup_tT, tup_lT, tup_tB, tup_lB, lst_tIs, lst_fIs, lst_tT, lst_lT, lst_tB, lst_lB, Tg_0, Tg_1, f_tIs, f_fIs, f_tT, f_lT, f_tB, f_lB, List.getElem?_set, List.getElem?_cons_zero, List.getElem?_cons_succ, List.getElem?_nil, sq_tup, sq_lst, isq_tup, isq_lst, len_tup, len_lst, add_int, le_int, lt_int, ge_int, gt_int, vals_c1, vals_c0, vals_st1, vals_st0, any_bl, all_bl, ix_t0, ix_t1, ix_t2, -getElem?_pos, h5], by simp [cfOf, startE, fin_, outsOf, retag, findTag, dRet, dSeq, dEnd, dNever, dIte, dIf, dDrop, dFld, dSet, toB, dC, dName, dBl, dNot, dAnd, dOr, tAndD, tOrD, tNotD, dTru, dBoolC, boolD, dIsi, dIsi2, dIsC, tyN, isN, d2, d3, oV, oPl, aNil, aCons, aStar, argB, argsB, ownPl, nodupB, wb, wb1, dCall, dMeth, oMake, oMake0, dSetFld, res, resAll, bV_val, bV_own, tD_lst, tD_ins, vals, dL, dLV, dTup, dLst, oLst, sz, ofO, i0D, iD, truD, dFz, R.bind, dAsg, gTp, gsCons, gsNil, gNm, dPar, setAll, dAug, dSetIx, isOwn, dApp, dFor, iVals, iRes, iSeq, dSl, pNo, pSome, dNeg, fdivD, modD, powD, mulA, mulI, absD, intD, max2D, min2D, max3D, min3D, isND, notND, dRaise, dDict, okP, flp, sq_tIs, sq_fIs, sq_tT, sq_lT, sq_tB, sq_lB, isq_tIs, isq_fIs, isq_tT, isq_lT, isq_tB, isq_lB, len_tIs, len_fIs, len_tT, len_lT, len_tB, len_lB, en_tIs, en_fIs, en_tT, en_lT, en_tB, en_lB, tup_tIs, tup_fIs, tup_tT, tup_lT, tup_tB, tup_lB, lst_tIs, lst_fIs, lst_tT, lst_lT, lst_tB, lst_lB, Tg_0, Tg_1, f_tIs, f_fIs, f_tT, f_lT, f_tB, f_lB, List.getElem?_set, List.getElem?_cons_zero, List.getElem?_cons_succ, List.getElem?_nil, sq_tup, sq_lst, isq_tup, isq_lst, len_tup, len_lst, add_int, le_int, lt_int, ge_int, gt_int, vals_c1, vals_c0, vals_st1, vals_st0, any_bl, all_bl, ix_t0, ix_t1, ix_t2, -getElem?_pos, hl]⟩
  obtain ⟨b2, q1, q2⟩ := h.e2
  have i0 := hd_ix m
  have i1 := hd_last m
  have i2 := hd_win m
  have h0 := h.m0
  cases m with
  | all =>
    obtain ⟨k1, k2, k3, k4⟩ := keep ρ (.bl (decide (t ∈ E))) h h4 h5
    refine ⟨_, ?_, k1, k2, k3, k4⟩
    simp [cfOf, startE, fin_, outsOf, retag, findTag, dRet, dSeq, dEnd, dNever, dIte, dIf, dDrop, dFld, dSet, toB, dC, dName, dBl, dNot, dAnd, dOr, tAndD, tOrD, tNotD, dTru, dBoolC, boolD, dIsi, dIsi2, dIsC, tyN, isN, d2, d3, oV, oPl, aNil, aCons, aStar, argB, argsB, ownPl, nodupB, wb, wb1, dCall, dMeth, oMake, oMake0, dSetFld, res, resAll, bV_val, bV_own, tD_lst, tD_ins, vals, dL, dLV, dTup, dLst, oLst, sz, ofO, i0D, iD, truD, dFz, R.bind, dAsg, gTp, gsCons, gsNil, gNm, dPar, setAll, dAug, dSetIx, isOwn, dApp, dFor, iVals, iRes, iSeq, dSl, pNo, pSome, dNeg, fdivD, modD, powD, mulA, mulI, absD, intD, max2D, min2D, max3D, min3D, isND, notND, dRaise, dDict, okP, flp, sq_tIs, sq_fIs, sq_tT, sq_lT, sq_tB, sq_lB, isq_tIs, isq_fIs, isq_tT, isq_lT, isq_tB, isq_lB, len_tIs, len_fIs, len_tT, len_lT, len_tB, len_lB, en_tIs, en_fIs, en_tT, en_lT, en_tB, en_lB, tup_tIs, tup_fIs, tup_tT, tup_lT, tup_tB, tup_lB, lst_tIs, lst_fIs, lst_tT, lst_lT, lst_tB, lst_lB, Tg_0, Tg_1, f_tIs, f_fIs, f_tT, f_lT, f_tB, f_lB, List.getElem?_set, List.getElem?_cons_zero, List.getElem?_cons_succ, List.getElem?_nil, sq_tup, sq_lst, isq_tup, isq_lst, len_tup, len_lst, add_int, le_int, lt_int, ge_int, gt_int, vals_c1, vals_c0, vals_st1, vals_st0, any_bl, all_bl, ix_t0, ix_t1, ix_t2, -getElem?_pos, h0, i0, i1, i2, Me.isLast, Me.isWin, h4, h5, mk_Tg, q1, q2, in_lT]
  | last =>
    obtain ⟨ρ', r1, r2, r3, r4⟩ := ld_any h h4 h5 hE
    obtain ⟨k1, k2, k3, k4⟩ := keep ρ' (.bl (E.any fun l => decide (l.1 = t.1) && decide (t.2 ≤ l.2))) r2 r3 r4
    refine ⟨_, ?_, k1, k2, k3, k4⟩
    simp [cfOf, startE, fin_, outsOf, retag, findTag, dRet, dSeq, dEnd, dNever, dIte, dIf, dDrop, dFld, dSet, toB, dC, dName, dBl, dNot, dAnd, dOr, tAndD, tOrD, tNotD, dTru, dBoolC, boolD, dIsi, dIsi2, dIsC, tyN, isN, d2, d3, oV, oPl, aNil, aCons, aStar, argB, argsB, ownPl, nodupB, wb, wb1, dCall, dMeth, oMake, oMake0, dSetFld, res, resAll, bV_val, bV_own, tD_lst, tD_ins, vals, dL, dLV, dTup, dLst, oLst, sz, ofO, i0D, iD, truD, dFz, R.bind, dAsg, gTp, gsCons, gsNil, gNm, dPar, setAll, dAug, dSetIx, isOwn, dApp, dFor, iVals, iRes, iSeq, dSl, pNo, pSome, dNeg, fdivD, modD, powD, mulA, mulI, absD, intD, max2D, min2D, max3D, min3D, isND, notND, dRaise, dDict, okP, flp, sq_tIs, sq_fIs, sq_tT, sq_lT, sq_tB, sq_lB, isq_tIs, isq_fIs, isq_tT, isq_lT, isq_tB, isq_lB, len_tIs, len_fIs, len_tT, len_lT, len_tB, len_lB, en_tIs, en_fIs, en_tT, en_lT, en_tB, en_lB, tup_tIs, tup_fIs, tup_tT, tup_lT, tup_tB, tup_lB, lst_tIs, lst_fIs, lst_tT, lst_lT, lst_tB, lst_lB, Tg_0, Tg_1, f_tIs, f_fIs, f_tT, f_lT, f_tB, f_lB, List.getElem?_set, List.getElem?_cons_zero, List.getElem?_cons_succ, List.getElem?_nil, sq_tup, sq_lst, isq_tup, isq_lst, len_tup, len_lst, add_int, le_int, lt_int, ge_int, gt_int, vals_c1, vals_c0, vals_st1, vals_st0, any_bl, all_bl, ix_t0, ix_t1, ix_t2, -getElem?_pos, h0, i0, i1, i2, Me.isLast, Me.isWin, r1]
  | win w =>
    obtain ⟨k1, k2, k3, k4⟩ := keep ρ (.bl (decide (t ∈ E.drop (E.length - w)))) h h4 h5
    refine ⟨_, ?_, k1, k2, k3, k4⟩
    have iw : ixD (Me.win w).d (.int 1) = some (.int w) := rfl
    by_cases hw : 0 < w
    · have hw' : (0 : Int) < w := by omega
      simp [cfOf, startE, fin_, outsOf, retag, findTag, dRet, dSeq, dEnd, dNever, dIte, dIf, dDrop, dFld, dSet, toB, dC, dName, dBl, dNot, dAnd, dOr, tAndD, tOrD, tNotD, dTru, dBoolC, boolD, dIsi, dIsi2, dIsC, tyN, isN, d2, d3, oV, oPl, aNil, aCons, aStar, argB, argsB, ownPl, nodupB, wb, wb1, dCall, dMeth, oMake, oMake0, dSetFld, res, resAll, bV_val, bV_own, tD_lst, tD_ins, vals, dL, dLV, dTup, dLst, oLst, sz, ofO, i0D, iD, truD, dFz, R.bind, dAsg, gTp, gsCons, gsNil, gNm, dPar, setAll, dAug, dSetIx, isOwn, dApp, dFor, iVals, iRes, iSeq, dSl, pNo, pSome, dNeg, fdivD, modD, powD, mulA, mulI, absD, intD, max2D, min2D, max3D, min3D, isND, notND, dRaise, dDict, okP, flp, sq_tIs, sq_fIs, sq_tT, sq_lT, sq_tB, sq_lB, isq_tIs, isq_fIs, isq_tT, isq_lT, isq_tB, isq_lB, len_tIs, len_fIs, len_tT, len_lT, len_tB, len_lB, en_tIs, en_fIs, en_tT, en_lT, en_tB, en_lB, tup_tIs, tup_fIs, tup_tT, tup_lT, tup_tB, tup_lB, lst_tIs, lst_fIs, lst_tT, lst_lT, lst_tB, lst_lB, Tg_0, Tg_1, f_tIs, f_fIs, f_tT, f_lT, f_tB, f_lB, List.getElem?_set, List.getElem?_cons_zero, List.getElem?_cons_succ, List.getElem?_nil, sq_tup, sq_lst, isq_tup, isq_lst, len_tup, len_lst, add_int, le_int, lt_int, ge_int, gt_int, vals_c1, vals_c0, vals_st1, vals_st0, any_bl, all_bl, ix_t0, ix_t1, ix_t2, -getElem?_pos, h0, i0, i1, i2, Me.isLast, Me.isWin, h4, h5, mk_Tg, q1, q2, in_lT, iw, hw, last_lT hw]
    · have hw0 : w = 0 := by omega
      subst hw0
      have z : inD false (Tg t) (.lst []) = some (.bl (decide (t ∈ ([] : List Pt)))) := in_lT false t []
      simp at z
      simp [cfOf, startE, fin_, outsOf, retag, findTag, dRet, dSeq, dEnd, dNever, dIte, dIf, dDrop, dFld, dSet, toB, dC, dName, dBl, dNot, dAnd, dOr, tAndD, tOrD, tNotD, dTru, dBoolC, boolD, dIsi, dIsi2, dIsC, tyN, isN, d2, d3, oV, oPl, aNil, aCons, aStar, argB, argsB, ownPl, nodupB, wb, wb1, dCall, dMeth, oMake, oMake0, dSetFld, res, resAll, bV_val, bV_own, tD_lst, tD_ins, vals, dL, dLV, dTup, dLst, oLst, sz, ofO, i0D, iD, truD, dFz, R.bind, dAsg, gTp, gsCons, gsNil, gNm, dPar, setAll, dAug, dSetIx, isOwn, dApp, dFor, iVals, iRes, iSeq, dSl, pNo, pSome, dNeg, fdivD, modD, powD, mulA, mulI, absD, intD, max2D, min2D, max3D, min3D, isND, notND, dRaise, dDict, okP, flp, sq_tIs, sq_fIs, sq_tT, sq_lT, sq_tB, sq_lB, isq_tIs, isq_fIs, isq_tT, isq_lT, isq_tB, isq_lB, len_tIs, len_fIs, len_tT, len_lT, len_tB, len_lB, en_tIs, en_fIs, en_tT, en_lT, en_tB, en_lB, tup_tIs, tup_fIs, tup_tT, tup_lT, tup_tB, tup_lB, lst_tIs, lst_fIs, lst_tT, lst_lT, lst_tB, lst_lB, Tg_0, Tg_1, f_tIs, f_fIs, f_tT, f_lT, f_tB, f_lB, List.getElem?_set, List.getElem?_cons_zero, List.getElem?_cons_succ, List.getElem?_nil, sq_tup, sq_lst, isq_tup, isq_lst, len_tup, len_lst, add_int, le_int, lt_int, ge_int, gt_int, vals_c1, vals_c0, vals_st1, vals_st0, any_bl, all_bl, ix_t0, ix_t1, ix_t2, -getElem?_pos, h0, i0, i1, i2, Me.isLast, Me.isWin, h4, h5, mk_Tg, q1, q2, z, iw]
end A
end
section
namespace A
open PySem Zd
set_option autoImplicit false
theorem ld_step {m : Me} {E : List Pt} {F : List Bool} {ρ : Zd.Env} {t : Pt} (h : LD m E F ρ) (h4 : ρ[4]? = some (some (iv t.1))) (h5 : ρ[5]? = some (some (iv t.2))) (hE : E.length ≤ 1000) (hF : F.length ≤ 1000) :
    ∃ ρ', ldBody ρ = .ok (ρ', .nx) ∧ LD m (if kn m E t = true then E else E ++ [t]) (F ++ [!kn m E t]) ρ' := by
  obtain ⟨ρ1, e1, h1, g4, g5, g8⟩ := ld_known h h4 h5 hE _ (dEnd .nx) rfl
  refine ⟨(ρ1.set 3 (sv (lB (F ++ [!kn m E t])))).set 2 (sv (lT (if kn m E t = true then E else E ++ [t]))), ?_, ?_⟩
  · unfold ldBody
    rw [seq_nx e1]
    obtain ⟨b2, q1, q2⟩ := h1.e2
    obtain ⟨b3, q3, q4⟩ := h1.f3
    have hl := h1.len
    have hB : ∀ x : Bool, addD (lB F) (.lst [.bl x]) = some (lB (F ++ [x])) := fun x => add1_lB (by omega)
    have hT : addD (lT E) (.lst [Tg t]) = some (lT (E ++ [t])) := add1_lT (by omega)
    have hT0 : addD (lT E) (.lst []) = some (lT E) := add0_lT (by omega)
    cases hk : kn m E t with
    | true =>
      rw [hk] at g8
      simp [cfOf, startE, fin_, outsOf, retag, findTag, dRet, dSeq, dEnd, dNever, dIte, dIf, dDrop, dFld, dSet, toB, dC, dName, dBl, dNot, dAnd, dOr, tAndD, tOrD, tNotD, dTru, dBoolC, boolD, dIsi, dIsi2, dIsC, tyN, isN, d2, d3, oV, oPl, aNil, aCons, aStar, argB, argsB, ownPl, nodupB, wb, wb1, dCall, dMeth, oMake, oMake0, dSetFld, res, resAll, bV_val, bV_own, tD_lst, tD_ins, vals, dL, dLV, dTup, dLst, oLst, sz, ofO, i0D, iD, truD, dFz, R.bind, dAsg, gTp, gsCons, gsNil, gNm, dPar, setAll, dAug, dSetIx, isOwn, dApp, dFor, iVals, iRes, iSeq, dSl, pNo, pSome, dNeg, fdivD, modD, powD, mulA, mulI, absD, intD, max2D, min2D, max3D, min3D, isND, notND, dRaise, dDict, okP, flp, sq_tIs, sq_fIs, sq_tT, sq_lT, sq_tB, sq_lB, isq_tIs, isq_fIs, isq_tT, isq_lT, isq_tB, isq_lB, len_tIs, len_fIs, len_tT, len_lT, len_tB, len_lB, en_tIs, en_fIs, en_tT, en_lT, en_tB, en_lB, tup_tIs, tup_fIs, tup_tT, tup_lT, tup_tB, tup_lB, lst_tIs, lst_fIs, lst_tT, lst_lT, lst_tB, lst_lB, Tg_0, Tg_1, f_tIs, f_fIs, f_tT, f_lT, f_tB, f_lB, List.getElem?_set, List.getElem?_cons_zero, List.getElem?_cons_succ, List.getElem?_nil, sq_tup, sq_lst, isq_tup, isq_lst, len_tup, len_lst, add_int, le_int, lt_int, ge_int, gt_int, vals_c1, vals_c0, vals_st1, vals_st0, any_bl, all_bl, ix_t0, ix_t1, ix_t2, -getElem?_pos, q1, q2, q3, q4, g4, g5, g8, mk_Tg, hB, hT0]
    | false =>
      rw [hk] at g8
      simp [cfOf, startE, fin_, outsOf, retag, findTag, dRet, dSeq, dEnd, dNever, dIte, dIf, dDrop, dFld, dSet, toB, dC, dName, dBl, dNot, dAnd, dOr, tAndD, tOrD, tNotD, dTru, dBoolC, boolD, dIsi, dIsi2, dIsC, tyN, isN, d2, d3, oV, oPl, aNil, aCons, aStar, argB, argsB, ownPl, nodupB, wb, wb1, dCall, dMeth, oMake, oMake0, dSetFld, res, resAll, bV_val, bV_own, tD_lst, tD_ins, vals, dL, dLV, dTup, dLst, oLst, sz, ofO, i0D, iD, truD, dFz, R.bind, dAsg, gTp, gsCons, gsNil, gNm, dPar, setAll, dAug, dSetIx, isOwn, dApp, dFor, iVals, iRes, iSeq, dSl, pNo, pSome, dNeg, fdivD, modD, powD, mulA, mulI, absD, intD, max2D, min2D, max3D, min3D, isND, notND, dRaise, dDict, okP, flp, sq_tIs, sq_fIs, sq_tT, sq_lT, sq_tB, sq_lB, isq_tIs, isq_fIs, isq_tT, isq_lT, isq_tB, isq_lB, len_tIs, len_fIs, len_tT, len_lT, len_tB, len_lB, en_tIs, en_fIs, en_tT, en_lT, en_tB, en_lB, tup_tIs, tup_fIs, tup_tT, tup_lT, tup_tB, tup_lB, lst_tIs, lst_fIs, lst_tT, lst_lT, lst_tB, lst_lB, Tg_0, Tg_1, f_tIs, f_fIs, f_tT, f_lT, f_tB, f_lB, List.getElem?_set, List.getElem?_cons_zero, List.getElem?_cons_succ, List.getElem?_nil, sq_tup, sq_lst, isq_tup, isq_lst, len_tup, len_lst, add_int, le_int, lt_int, ge_int, gt_int, vals_c1, vals_c0, vals_st1, vals_st0, any_bl, all_bl, ix_t0, ix_t1, ix_t2, -getElem?_pos, q1, q2, q3, q4, g4, g5, g8, mk_Tg, hB, hT]
  · have hl := h1.len
    exact ⟨by simp [hl], by simp [cfOf, startE, fin_, outsOf, retag, findTag, dRet, dSeq, dEnd, dNever, dIte, dIf, dDrop, dFld, dSet, toB, dC, dName, dBl, dNot, dAnd, dOr, tAndD, tOrD, tNotD, dTru, dBoolC, boolD, dIsi, dIsi2, dIsC, tyN, isN, d2, d3, oV, oPl, aNil, aCons, aStar, argB, argsB, ownPl, nodupB, wb, wb1, dCall, dMeth, oMake, oMake0, dSetFld, res, resAll, bV_val, bV_own, tD_lst, tD_ins, vals, dL, dLV, dTup, dLst, oLst, sz, ofO, i0D, iD, truD, dFz, R.bind, dAsg, gTp, gsCons, gsNil, gNm, dPar, setAll, dAug, dSetIx, isOwn, dApp, dFor, iVals, iRes, iSeq, dSl, pNo, pSome, dNeg, fdivD, modD, powD, mulA, mulI, absD, intD, max2D, min2D, max3D, min3D, isND, notND, dRaise, dDict, okP, flp, sq_tIs, sq_fIs, sq_tT, sq_lT, sq_tB, sq_lB, isq_tIs, isq_fIs, isq_tT, isq_lT, isq_tB, isq_lB, len_tIs, len_fIs, len_tT, len_lT, len_tB, len_lB, en_tIs, en_fIs, en_tT, en_lT, en_tB, en_lB, tup_tIs, tup_fIs, tup_tT, tup_lT, tup_tB, tup_lB, lst_tIs, lst_fIs, lst_tT, lst_lT, lst_tB, lst_lB, Tg_0, Tg_1, f_tIs, f_fIs, f_tT, f_lT, f_tB, f_lB, List.getElem?_set, List.getElem?_cons_zero, List.getElem?_cons_succ, List.getElem?_nil, sq_tup, sq_lst, isq_tup, isq_lst, len_tup, len_lst, add_int, le_int, lt_int, ge_int, gt_int, vals_c1, vals_c0, vals_st1, vals_st0, any_bl, all_bl, ix_t0, ix_t1, ix_t2, -getElem?_pos, h1.m0], ⟨.val (lT _), by simp [cfOf, startE, fin_, outsOf, retag, findTag, dRet, dSeq, dEnd, dNever, dIte, dIf, dDrop, dFld, dSet, toB, dC, dName, dBl, dNot, dAnd, dOr, tAndD, tOrD, tNotD, dTru, dBoolC, boolD, dIsi, dIsi2, dIsC, tyN, isN, d2, d3, oV, oPl, aNil, aCons, aStar, argB, argsB, ownPl, nodupB, wb, wb1, dCall, dMeth, oMake, oMake0, dSetFld, res, resAll, bV_val, bV_own, tD_lst, tD_ins, vals, dL, dLV, dTup, dLst, oLst, sz, ofO, i0D, iD, truD, dFz, R.bind, dAsg, gTp, gsCons, gsNil, gNm, dPar, setAll, dAug, dSetIx, isOwn, dApp, dFor, iVals, iRes, iSeq, dSl, pNo, pSome, dNeg, fdivD, modD, powD, mulA, mulI, absD, intD, max2D, min2D, max3D, min3D, isND, notND, dRaise, dDict, okP, flp, sq_tIs, sq_fIs, sq_tT, sq_lT, sq_tB, sq_lB, isq_tIs, isq_fIs, isq_tT, isq_lT, isq_tB, isq_lB, len_tIs, len_fIs, len_tT, len_lT, len_tB, len_lB, en_tIs, en_fIs, en_tT, en_lT, en_tB, en_lB, tup_tIs, tup_fIs, tup_tT, tup_lT, tup_tB, tup_lB, lst_tIs, lst_fIs, lst_tT, lst_lT, lst_tB, lst_lB, Tg_0, Tg_1, f_tIs, f_fIs, f_tT, f_lT, f_tB, f_lB, List.getElem?_set, List.getElem?_cons_zero, List.getElem?_cons_succ, List.getElem?_nil, sq_tup, sq_lst, isq_tup, isq_lst, len_tup, len_lst, add_int, le_int, lt_int, ge_int, gt_int, vals_c1, vals_c0, vals_st1, vals_st0, any_bl, all_bl, ix_t0, ix_t1, ix_t2, -getElem?_pos, hl], rfl⟩, ⟨.val (lB _), by simp [cfOf, startE, fin_, outsOf, retag, findTag, dRet, dSeq, dEnd, dNever, dIte, dIf, dDrop, dFld, dSet, toB, dC, dName, dBl, dNot, dAnd, dOr, tAndD, tOrD, tNotD, dTru, dBoolC, boolD, dIsi, dIsi2, dIsC, tyN, isN, d2, d3, oV, oPl, aNil, aCons, aStar, argB, argsB, ownPl, nodupB, wb, wb1, dCall, dMeth, oMake, oMake0, dSetFld, res, resAll, bV_val, bV_own, tD_lst, tD_ins, vals, dL, dLV, dTup, dLst, oLst, sz, ofO, i0D, iD, truD, dFz, R.bind, dAsg, gTp, gsCons, gsNil, gNm, dPar, setAll, dAug, dSetIx, isOwn, dApp, dFor, iVals, iRes, iSeq, dSl, pNo, pSome, dNeg, fdivD, modD, powD, mulA, mulI, absD, intD, max2D, min2D, max3D, min3D, isND, notND, dRaise, dDict, okP, flp, sq_tIs, sq_fIs, sq_tT, sq_lT, sq_tB, sq_lB, isq_tIs, isq_fIs, isq_tT, isq_lT, isq_tB, isq_lB, len_tIs, len_fIs, len_tT, len_lT, len_tB, len_lB, en_tIs, en_fIs, en_tT, en_lT, en_tB, en_lB, tup_tIs, tup_fIs, tup_tT, tup_lT, tup_tB, tup_lB, lst_tIs, lst_fIs, lst_tT, lst_lT, lst_tB, lst_lB, Tg_0, Tg_1, f_tIs, f_fIs, f_tT, f_lT, f_tB, f_lB, List.getElem?_set, List.getElem?_cons_zero, List.getElem?_cons_succ, List.getElem?_nil, sq_tup, sq_lst, isq_tup, isq_lst, len_tup, len_lst, add_int, le_int, lt_int, ge_int, gt_int, vals_c1, vals_c0, vals_st1, vals_st0, any_bl, all_bl, ix_t0, ix_t1, ix_t2, -getElem?_pos, hl], rfl⟩, noOwn_set rfl (noOwn_set rfl h1.no)⟩
theorem ld_loop {m : Me} : ∀ (C E : List Pt) (F : List Bool) (ρ : Zd.Env), LD m E F ρ → E.length + C.length ≤ 1000 → F.length + C.length ≤ 1000 →
    ∃ ρ' b, fl (gTp (gsCons (gNm 4) (gsCons (gNm 5) gsNil))) ldBody (C.map Tg) ρ = .ok (ρ', .nx) ∧ ρ'[3]? = some (some b) ∧ bVal b = lB (F ++ run m E C)
  | [], E, F, ρ, h, _, _ => by
    obtain ⟨b, h1, h2⟩ := h.f3
    exact ⟨ρ, b, rfl, h1, by simpa [run] using h2⟩
  | t :: C, E, F, ρ, h, hE, hF => by
    simp only [List.length_cons] at hE hF
    have hl := h.len
    have hi : LD m E F ((ρ.set 4 (some (iv t.1))).set 5 (some (iv t.2))) := by
      obtain ⟨b2, q1, q2⟩ := h.e2
      obtain ⟨b3, q3, q4⟩ := h.f3
      exact ⟨by simp [hl], by simp [cfOf, startE, fin_, outsOf, retag, findTag, dRet, dSeq, dEnd, dNever, dIte, dIf, dDrop, dFld, dSet, toB, dC, dName, dBl, dNot, dAnd, dOr, tAndD, tOrD, tNotD, dTru, dBoolC, boolD, dIsi, dIsi2, dIsC, tyN, isN, d2, d3, oV, oPl, aNil, aCons, aStar, argB, argsB, ownPl, nodupB, wb, wb1, dCall, dMeth, oMake, oMake0, dSetFld, res, resAll, bV_val, bV_own, tD_lst, tD_ins, vals, dL, dLV, dTup, dLst, oLst, sz, ofO, i0D, iD, truD, dFz, R.bind, dAsg, gTp, gsCons, gsNil, gNm, dPar, setAll, dAug, dSetIx, isOwn, dApp, dFor, iVals, iRes, iSeq, dSl, pNo, pSome, dNeg, fdivD, modD, powD, mulA, mulI, absD, intD, max2D, min2D, max3D, min3D, isND, notND, dRaise, dDict, okP, flp, sq_tIs, sq_fIs, sq_tT, sq_lT, sq_tB, sq_lB, isq_tIs, isq_fIs, isq_tT, isq_lT, isq_tB, isq_lB, len_tIs, len_fIs, len_tT, len_lT, len_tB, len_lB, en_tIs, en_fIs, en_tT, en_lT, en_tB, en_lB, tup_tIs, tup_fIs, tup_tT, tup_lT, tup_tB, tup_lB, lst_tIs, lst_fIs, lst_tT, lst_lT, lst_tB, lst_lB, Tg_0, Tg_1, f_tIs, f_fIs, f_tT, f_lT, f_tB, f_lB, List.getElem?_set, List.getElem?_cons_zero, List.getElem?_cons_succ, List.getElem?_nil, sq_tup, sq_lst, isq_tup, isq_lst, len_tup, len_lst, add_int, le_int, lt_int, ge_int, gt_int, vals_c1, vals_c0, vals_st1, vals_st0, any_bl, all_bl, ix_t0, ix_t1, ix_t2, -getElem?_pos, h.m0], ⟨b2, by simp [cfOf, startE, fin_, outsOf, retag, findTag, dRet, dSeq, dEnd, dNever, dIte, dIf, dDrop, dFld, dSet, toB, dC, dName, dBl, dNot, dAnd, dOr, tAndD, tOrD, tNotD, dTru, dBoolC, boolD, dIsi, dIsi2, dIsC, tyN, isN, d2, d3, oV, oPl, aNil, aCons, aStar, argB, argsB, ownPl, nodupB, wb, wb1, dCall, dMeth, oMake, oMake0, dSetFld, res, resAll, bV_val, bV_own, tD_lst, tD_ins, vals, dL, dLV, dTup, dLst, oLst, sz, ofO, i0D, iD, truD, dFz, R.bind, dAsg, gTp, gsCons, gsNil, gNm, dPar, setAll, dAug, dSetIx, isOwn, dApp, dFor, iVals, iRes, iSeq, dSl, pNo, pSome, dNeg, fdivD, modD, powD, mulA, mulI, absD, intD, max2D, min2D, max3D, min3D, isND, notND, dRaise, dDict, okP, flp, sq_tIs, sq_fIs, sq_tT, sq_lT, sq_tB, sq_lB, isq_tIs, isq_fIs, isq_tT, isq_lT, isq_tB, isq_lB, len_tIs, len_fIs, len_tT, len_lT, len_tB, len_lB, en_tIs, en_fIs, en_tT, en_lT, en_tB, en_lB, tup_tIs, tup_fIs, tup_tT, tup_lT, tup_tB, tup_lB, lst_tIs, lst_fIs, lst_tT, lst_lT, lst_tB, lst_lB, Tg_0, Tg_1, f_tIs, f_fIs, f_tT, f_lT, f_tB, f_lB, List.getElem?_set, List.getElem?_cons_zero, List.getElem?_cons_succ, List.getElem?_nil, sq_tup, sq_lst, isq_tup, isq_lst, len_tup, len_lst, add_int, le_int, lt_int, ge_int, gt_int, vals_c1, vals_c0, vals_st1, vals_st0, any_bl, all_bl, ix_t0, ix_t1, ix_t2, -getElem?_pos, q1], q2⟩, ⟨b3, by simp [cfOf, startE, fin_, outsOf, retag, findTag, dRet, dSeq, dEnd, dNever, dIte, dIf, dDrop, dFld, dSet, toB, dC, dName, dBl, dNot, dAnd, dOr, tAndD, tOrD, tNotD, dTru, dBoolC, boolD, dIsi, dIsi2, dIsC, tyN, isN, d2, d3, oV, oPl, aNil, aCons, aStar, argB, argsB, ownPl, nodupB, wb, wb1, dCall, dMeth, oMake, oMake0, dSetFld, res, resAll, bV_val, bV_own, tD_lst, tD_ins, vals, dL, dLV, dTup, dLst, oLst, sz, ofO, i0D, iD, truD, dFz, R.bind, dAsg, gTp, gsCons, gsNil, gNm, dPar, setAll, dAug, dSetIx, isOwn, dApp, dFor, iVals, iRes, iSeq, dSl, pNo, pSome, dNeg, fdivD, modD, powD, mulA, mulI, absD, intD, max2D, min2D, max3D, min3D, isND, notND, dRaise, dDict, okP, flp, sq_tIs, sq_fIs, sq_tT, sq_lT, sq_tB, sq_lB, isq_tIs, isq_fIs, isq_tT, isq_lT, isq_tB, isq_lB, len_tIs, len_fIs, len_tT, len_lT, len_tB, len_lB, en_tIs, en_fIs, en_tT, en_lT, en_tB, en_lB, tup_tIs, tup_fIs, tup_tT, tup_lT, tup_tB, tup_lB, lst_tIs, lst_fIs, lst_tT, lst_lT, lst_tB, lst_lB, Tg_0, Tg_1, f_tIs, f_fIs, f_tT, f_lT, f_tB, f_lB, List.getElem?_set, List.getElem?_cons_zero, List.getElem?_cons_succ, List.getElem?_nil, sq_tup, sq_lst, isq_tup, isq_lst, len_tup, len_lst, add_int, le_int, lt_int, ge_int, gt_int, vals_c1, vals_c0, vals_st1, vals_st0, any_bl, all_bl, ix_t0, ix_t1, ix_t2, -getElem?_pos, q3], q4⟩, noOwn_set rfl (noOwn_set rfl h.no)⟩
    obtain ⟨ρ1, e1, h1⟩ := ld_step (t := t) hi (by simp [cfOf, startE, fin_, outsOf, retag, findTag, dRet, dSeq, dEnd, dNever, dIte, dIf, dDrop, dFld, dSet, toB, dC, dName, dBl, dNot, dAnd, dOr, tAndD, tOrD, tNotD, dTru, dBoolC, boolD, dIsi, dIsi2, dIsC, tyN, isN, d2, d3, oV, oPl, aNil, aCons, aStar, argB, argsB, ownPl, nodupB, wb, wb1, dCall, dMeth, oMake, oMake0, dSetFld, res, resAll, bV_val, bV_own, tD_lst, tD_ins, vals, dL, dLV, dTup, dLst, oLst, sz, ofO, i0D, iD, truD, dFz, R.bind, dAsg, gTp, gsCons, gsNil, gNm, dPar, setAll, dAug, dSetIx, isOwn, dApp, dFor, iVals, iRes, iSeq, dSl, pNo, pSome, dNeg, fdivD, modD, powD, mulA, mulI, absD, intD, max2D, min2D, max3D, min3D, isND, notND, dRaise, dDict, okP, flp, sq_tIs, sq_fIs, sq_tT, sq_lT, sq_tB, sq_lB, isq_tIs, isq_fIs, isq_tT, isq_lT, isq_tB, isq_lB, len_tIs, len_fIs, len_tT, len_lT, len_tB, len_lB, en_tIs, en_fIs, en_tT, en_lT, en_tB, en_lB, tup_tIs, tup_fIs, tup_tT, tup_lT, tup_tB, tup_lB, lst_tIs, lst_fIs, lst_tT, lst_lT, lst_tB, lst_lB, Tg_0, Tg_1, f_tIs, f_fIs, f_tT, f_lT, f_tB, f_lB, List.getElem?_set, List.getElem?_cons_zero, List.getElem?_cons_succ, List.getElem?_nil, sq_tup, sq_lst, isq_tup, isq_lst, len_tup, len_lst, add_int, le_int, lt_int, ge_int, gt_int, vals_c1, vals_c0, vals_st1, vals_st0, any_bl, all_bl, ix_t0, ix_t1, ix_t2, -getElem?_pos, hl]) (by simp [cfOf, startE, fin_, outsOf, retag, findTag, dRet, dSeq, dEnd, dNever, dIte, dIf, dDrop, dFld, dSet, toB, dC, dName, dBl, dNot, dAnd, dOr, tAndD, tOrD, tNotD, dTru, dBoolC, boolD, dIsi, dIsi2, dIsC, tyN, isN, d2, d3, oV, oPl, aNil, aCons, aStar, argB, argsB, ownPl, nodupB, wb, wb1, dCall, dMeth, oMake, oMake0, dSetFld, res, resAll, bV_val, bV_own, tD_lst, tD_ins, vals, dL, dLV, dTup, dLst, oLst, sz, ofO, i0D, iD, truD, dFz, R.bind, dAsg, gTp, gsCons, gsNil, gNm, dPar, setAll, dAug, dSetIx, isOwn, dApp, dFor, iVals, iRes, iSeq, dSl, pNo, pSome, dNeg, fdivD, modD, powD, mulA, mulI, absD, intD, max2D, min2D, max3D, min3D, isND, notND, dRaise, dDict, okP, flp, sq_tIs, sq_fIs, sq_tT, sq_lT, sq_tB, sq_lB, isq_tIs, isq_fIs, isq_tT, isq_lT, isq_tB, isq_lB, len_tIs, len_fIs, len_tT, len_lT, len_tB, len_lB, en_tIs, en_fIs, en_tT, en_lT, en_tB, en_lB, tup_tIs, tup_fIs, tup_tT, tup_lT, tup_tB, tup_lB, lst_tIs, lst_fIs, lst_tT, lst_lT, lst_tB, lst_lB, Tg_0, Tg_1, f_tIs, f_fIs, f_tT, f_lT, f_tB, f_lB, List.getElem?_set, List.getElem?_cons_zero, List.getElem?_cons_succ, List.getElem?_nil, sq_tup, sq_lst, isq_tup, isq_lst, len_tup, len_lst, add_int, le_int, lt_int, ge_int, gt_int, vals_c1, vals_c0, vals_st1, vals_st0, any_bl, all_bl, ix_t0, ix_t1, ix_t2, -getElem?_pos, hl]) (by omega) (by omega)
    have hE' : (if kn m E t = true then E else E ++ [t]).length ≤ E.length + 1 := by split <;> simp
    obtain ⟨ρ2, b, e2, h2, h3⟩ := ld_loop C _ _ ρ1 h1 (by omega) (by simp only [List.length_append, List.length_cons, List.length_nil]; omega)
    refine ⟨ρ2, b, ?_, h2, by rw [h3]; simp [run]⟩
    have eg : gTp (gsCons (gNm 4) (gsCons (gNm 5) gsNil)) (Tg t) ρ = some ((ρ.set 4 (some (iv t.1))).set 5 (some (iv t.2))) := rfl
    simp [fl, eg, ofO, R.bind, e1, e2]
theorem f_law_done {m : Me} {C : List Pt} (hC : C.length ≤ 24) : F__law_done [.val m.d, .val (tT C)] = .ok [none, none] (tB (run m [] C)) := by
  obtain ⟨ρ', b, e, h1, h2⟩ := ld_loop (m := m) C [] [] [sv m.d, sv (tT C), some (.own 0 (.lst [])), some (.own 0 (.lst [])), none, none, none, none, none] ⟨rfl, rfl, ⟨_, rfl, rfl⟩, ⟨_, rfl, rfl⟩, rfl⟩ (by simp; omega) (by simp; omega)
  unfold ldBody ldB1 at e
  simp [cfOf, startE, fin_, outsOf, retag, findTag, dRet, dSeq, dEnd, dNever, dIte, dIf, dDrop, dFld, dSet, toB, dC, dName, dBl, dNot, dAnd, dOr, tAndD, tOrD, tNotD, dTru, dBoolC, boolD, dIsi, dIsi2, dIsC, tyN, isN, d2, d3, oV, oPl, aNil, aCons, aStar, argB, argsB, ownPl, nodupB, wb, wb1, dCall, dMeth, oMake, oMake0, dSetFld, res, resAll, bV_val, bV_own, tD_lst, tD_ins, vals, dL, dLV, dTup, dLst, oLst, sz, ofO, i0D, iD, truD, dFz, R.bind, dAsg, gTp, gsCons, gsNil, gNm, dPar, setAll, dAug, dSetIx, isOwn, dApp, dFor, iVals, iRes, iSeq, dSl, pNo, pSome, dNeg, fdivD, modD, powD, mulA, mulI, absD, intD, max2D, min2D, max3D, min3D, isND, notND, dRaise, dDict, okP, flp, sq_tIs, sq_fIs, sq_tT, sq_lT, sq_tB, sq_lB, isq_tIs, isq_fIs, isq_tT, isq_lT, isq_tB, isq_lB, len_tIs, len_fIs, len_tT, len_lT, len_tB, len_lB, en_tIs, en_fIs, en_tT, en_lT, en_tB, en_lB, tup_tIs, tup_fIs, tup_tT, tup_lT, tup_tB, tup_lB, lst_tIs, lst_fIs, lst_tT, lst_lT, lst_tB, lst_lB, Tg_0, Tg_1, f_tIs, f_fIs, f_tT, f_lT, f_tB, f_lB, List.getElem?_set, List.getElem?_cons_zero, List.getElem?_cons_succ, List.getElem?_nil, sq_tup, sq_lst, isq_tup, isq_lst, len_tup, len_lst, add_int, le_int, lt_int, ge_int, gt_int, vals_c1, vals_c0, vals_st1, vals_st0, any_bl, all_bl, ix_t0, ix_t1, ix_t2, -getElem?_pos, F__law_done, D__law_done, e, h1, h2]
end A
end
section
namespace A
open PySem Zd
set_option autoImplicit false
def kn2 (m : Me) (K : List Pt) (t : Pt) : Bool := match m with
  | .last => K.any fun l => decide (l.1 = t.1) && decide (t.2 ≤ l.2)
  | _ => decide (t ∈ K)
def kb (m : Me) (K : List Pt) (t : Pt) : List Pt := match m with
  | .all => K ++ [t]
  | .last => sortP (K.filter (fun l => !decide (l.1 = t.1)) ++ [t])
  | .win w => (K ++ [t]).drop ((K ++ [t]).length - w)
def run2 (m : Me) : List Pt → List Pt → List Bool
  | _, [] => []
  | K, t :: C => (!kn2 m K t) :: run2 m (if kn2 m K t = true then K else kb m K t) C
theorem f_is_known {m : Me} {K : List Pt} {t : Pt} (hK : K.length ≤ 1000) : F_is_known [.val m.d, .val (tT K), .val (Tg t)] = .ok [none, none, none] (.bl (kn2 m K t)) := by
  have i0 := hd_ix m
  have i1 := hd_last m
  cases m with
  | last =>
    have q := lc_1 (v := 3) (ρ0 := [sv Me.last.d, sv (tT K), sv (Tg t), none]) (ρ := [sv Me.last.d, sv (tT K), sv (Tg t), none]) (di := iSeq (dName 1)) (t := tTrue) (c := (dAnd (d2 eqD (oV (d2 ixD (oPl 3) (oV (dC (.int 0))))) (oV (d2 ixD (oPl 2) (oV (dC (.int 0)))))) (d2 geD (oV (d2 ixD (oPl 3) (oV (dC (.int 1))))) (oV (d2 ixD (oPl 2) (oV (dC (.int 1)))))))) (L := K) Tg (fun _ => true) (fun x => .bl (decide (x.1 = t.1) && decide (t.2 ≤ x.2))) (by simp) rfl (by simp [cfOf, startE, fin_, outsOf, retag, findTag, dRet, dSeq, dEnd, dNever, dIte, dIf, dDrop, dFld, dSet, toB, dC, dName, dBl, dNot, dAnd, dOr, tAndD, tOrD, tNotD, dTru, dBoolC, boolD, dIsi, dIsi2, dIsC, tyN, isN, d2, d3, oV, oPl, aNil, aCons, aStar, argB, argsB, ownPl, nodupB, wb, wb1, dCall, dMeth, oMake, oMake0, dSetFld, res, resAll, bV_val, bV_own, tD_lst, tD_ins, vals, dL, dLV, dTup, dLst, oLst, sz, ofO, i0D, iD, truD, dFz, R.bind, dAsg, gTp, gsCons, gsNil, gNm, dPar, setAll, dAug, dSetIx, isOwn, dApp, dFor, iVals, iRes, iSeq, dSl, pNo, pSome, dNeg, fdivD, modD, powD, mulA, mulI, absD, intD, max2D, min2D, max3D, min3D, isND, notND, dRaise, dDict, okP, flp, sq_tIs, sq_fIs, sq_tT, sq_lT, sq_tB, sq_lB, isq_tIs, isq_fIs, isq_tT, isq_lT, isq_tB, isq_lB, len_tIs, len_fIs, len_tT, len_lT, len_tB, len_lB, en_tIs, en_fIs, en_tT, en_lT, en_tB, en_lB, tup_tIs, tup_fIs, tup_tT, tup_lT, tup_tB, tup_lB, lst_tIs, lst_fIs, lst_tT, lst_lT, lst_tB, lst_lB, Tg_0, Tg_1, f_tIs, f_fIs, f_tT, f_lT, f_tB, f_lB, List.getElem?_set, List.getElem?_cons_zero, List.getElem?_cons_succ, List.getElem?_nil, sq_tup, sq_lst, isq_tup, isq_lst, len_tup, len_lst, add_int, le_int, lt_int, ge_int, gt_int, vals_c1, vals_c0, vals_st1, vals_st0, any_bl, all_bl, ix_t0, ix_t1, ix_t2, -getElem?_pos]) (fun x _ => rfl)
      (fun x _ _ => by by_cases hx : x.1 = t.1 <;> simp [cfOf, startE, fin_, outsOf, retag, findTag, dRet, dSeq, dEnd, dNever, dIte, dIf, dDrop, dFld, dSet, toB, dC, dName, dBl, dNot, dAnd, dOr, tAndD, tOrD, tNotD, dTru, dBoolC, boolD, dIsi, dIsi2, dIsC, tyN, isN, d2, d3, oV, oPl, aNil, aCons, aStar, argB, argsB, ownPl, nodupB, wb, wb1, dCall, dMeth, oMake, oMake0, dSetFld, res, resAll, bV_val, bV_own, tD_lst, tD_ins, vals, dL, dLV, dTup, dLst, oLst, sz, ofO, i0D, iD, truD, dFz, R.bind, dAsg, gTp, gsCons, gsNil, gNm, dPar, setAll, dAug, dSetIx, isOwn, dApp, dFor, iVals, iRes, iSeq, dSl, pNo, pSome, dNeg, fdivD, modD, powD, mulA, mulI, absD, intD, max2D, min2D, max3D, min3D, isND, notND, dRaise, dDict, okP, flp, sq_tIs, sq_fIs, sq_tT, sq_lT, sq_tB, sq_lB, isq_tIs, isq_fIs, isq_tT, isq_lT, isq_tB, isq_lB, len_tIs, len_fIs, len_tT, len_lT, len_tB, len_lB, en_tIs, en_fIs, en_tT, en_lT, en_tB, en_lB, tup_tIs, tup_fIs, tup_tT, tup_lT, tup_tB, tup_lB, lst_tIs, lst_fIs, lst_tT, lst_lT, lst_tB, lst_lB, Tg_0, Tg_1, f_tIs, f_fIs, f_tT, f_lT, f_tB, f_lB, List.getElem?_set, List.getElem?_cons_zero, List.getElem?_cons_succ, List.getElem?_nil, sq_tup, sq_lst, isq_tup, isq_lst, len_tup, len_lst, add_int, le_int, lt_int, ge_int, gt_int, vals_c1, vals_c0, vals_st1, vals_st0, any_bl, all_bl, ix_t0, ix_t1, ix_t2, -getElem?_pos, eq_int, hx]) (by omega)
    have hf : K.filter (fun _ => true) = K := by simp
    rw [hf] at q
    simp [cfOf, startE, fin_, outsOf, retag, findTag, dRet, dSeq, dEnd, dNever, dIte, dIf, dDrop, dFld, dSet, toB, dC, dName, dBl, dNot, dAnd, dOr, tAndD, tOrD, tNotD, dTru, dBoolC, boolD, dIsi, dIsi2, dIsC, tyN, isN, d2, d3, oV, oPl, aNil, aCons, aStar, argB, argsB, ownPl, nodupB, wb, wb1, dCall, dMeth, oMake, oMake0, dSetFld, res, resAll, bV_val, bV_own, tD_lst, tD_ins, vals, dL, dLV, dTup, dLst, oLst, sz, ofO, i0D, iD, truD, dFz, R.bind, dAsg, gTp, gsCons, gsNil, gNm, dPar, setAll, dAug, dSetIx, isOwn, dApp, dFor, iVals, iRes, iSeq, dSl, pNo, pSome, dNeg, fdivD, modD, powD, mulA, mulI, absD, intD, max2D, min2D, max3D, min3D, isND, notND, dRaise, dDict, okP, flp, sq_tIs, sq_fIs, sq_tT, sq_lT, sq_tB, sq_lB, isq_tIs, isq_fIs, isq_tT, isq_lT, isq_tB, isq_lB, len_tIs, len_fIs, len_tT, len_lT, len_tB, len_lB, en_tIs, en_fIs, en_tT, en_lT, en_tB, en_lB, tup_tIs, tup_fIs, tup_tT, tup_lT, tup_tB, tup_lB, lst_tIs, lst_fIs, lst_tT, lst_lT, lst_tB, lst_lB, Tg_0, Tg_1, f_tIs, f_fIs, f_tT, f_lT, f_tB, f_lB, List.getElem?_set, List.getElem?_cons_zero, List.getElem?_cons_succ, List.getElem?_nil, sq_tup, sq_lst, isq_tup, isq_lst, len_tup, len_lst, add_int, le_int, lt_int, ge_int, gt_int, vals_c1, vals_c0, vals_st1, vals_st0, any_bl, all_bl, ix_t0, ix_t1, ix_t2, -getElem?_pos, F_is_known, D_is_known, i0, i1, Me.isLast, q, kn2]
  | all => simp [cfOf, startE, fin_, outsOf, retag, findTag, dRet, dSeq, dEnd, dNever, dIte, dIf, dDrop, dFld, dSet, toB, dC, dName, dBl, dNot, dAnd, dOr, tAndD, tOrD, tNotD, dTru, dBoolC, boolD, dIsi, dIsi2, dIsC, tyN, isN, d2, d3, oV, oPl, aNil, aCons, aStar, argB, argsB, ownPl, nodupB, wb, wb1, dCall, dMeth, oMake, oMake0, dSetFld, res, resAll, bV_val, bV_own, tD_lst, tD_ins, vals, dL, dLV, dTup, dLst, oLst, sz, ofO, i0D, iD, truD, dFz, R.bind, dAsg, gTp, gsCons, gsNil, gNm, dPar, setAll, dAug, dSetIx, isOwn, dApp, dFor, iVals, iRes, iSeq, dSl, pNo, pSome, dNeg, fdivD, modD, powD, mulA, mulI, absD, intD, max2D, min2D, max3D, min3D, isND, notND, dRaise, dDict, okP, flp, sq_tIs, sq_fIs, sq_tT, sq_lT, sq_tB, sq_lB, isq_tIs, isq_fIs, isq_tT, isq_lT, isq_tB, isq_lB, len_tIs, len_fIs, len_tT, len_lT, len_tB, len_lB, en_tIs, en_fIs, en_tT, en_lT, en_tB, en_lB, tup_tIs, tup_fIs, tup_tT, tup_lT, tup_tB, tup_lB, lst_tIs, lst_fIs, lst_tT, lst_lT, lst_tB, lst_lB, Tg_0, Tg_1, f_tIs, f_fIs, f_tT, f_lT, f_tB, f_lB, List.getElem?_set, List.getElem?_cons_zero, List.getElem?_cons_succ, List.getElem?_nil, sq_tup, sq_lst, isq_tup, isq_lst, len_tup, len_lst, add_int, le_int, lt_int, ge_int, gt_int, vals_c1, vals_c0, vals_st1, vals_st0, any_bl, all_bl, ix_t0, ix_t1, ix_t2, -getElem?_pos, F_is_known, D_is_known, i0, i1, Me.isLast, kn2, in_tT]
  | win w => simp [cfOf, startE, fin_, outsOf, retag, findTag, dRet, dSeq, dEnd, dNever, dIte, dIf, dDrop, dFld, dSet, toB, dC, dName, dBl, dNot, dAnd, dOr, tAndD, tOrD, tNotD, dTru, dBoolC, boolD, dIsi, dIsi2, dIsC, tyN, isN, d2, d3, oV, oPl, aNil, aCons, aStar, argB, argsB, ownPl, nodupB, wb, wb1, dCall, dMeth, oMake, oMake0, dSetFld, res, resAll, bV_val, bV_own, tD_lst, tD_ins, vals, dL, dLV, dTup, dLst, oLst, sz, ofO, i0D, iD, truD, dFz, R.bind, dAsg, gTp, gsCons, gsNil, gNm, dPar, setAll, dAug, dSetIx, isOwn, dApp, dFor, iVals, iRes, iSeq, dSl, pNo, pSome, dNeg, fdivD, modD, powD, mulA, mulI, absD, intD, max2D, min2D, max3D, min3D, isND, notND, dRaise, dDict, okP, flp, sq_tIs, sq_fIs, sq_tT, sq_lT, sq_tB, sq_lB, isq_tIs, isq_fIs, isq_tT, isq_lT, isq_tB, isq_lB, len_tIs, len_fIs, len_tT, len_lT, len_tB, len_lB, en_tIs, en_fIs, en_tT, en_lT, en_tB, en_lB, tup_tIs, tup_fIs, tup_tT, tup_lT, tup_tB, tup_lB, lst_tIs, lst_fIs, lst_tT, lst_lT, lst_tB, lst_lB, Tg_0, Tg_1, f_tIs, f_fIs, f_tT, f_lT, f_tB, f_lB, List.getElem?_set, List.getElem?_cons_zero, List.getElem?_cons_succ, List.getElem?_nil, sq_tup, sq_lst, isq_tup, isq_lst, len_tup, len_lst, add_int, le_int, lt_int, ge_int, gt_int, vals_c1, vals_c0, vals_st1, vals_st0, any_bl, all_bl, ix_t0, ix_t1, ix_t2, -getElem?_pos, F_is_known, D_is_known, i0, i1, Me.isLast, kn2, in_tT]
theorem f_kept_behind {m : Me} {K : List Pt} {t : Pt} (hK : K.length ≤ 1000) : F_kept_behind [.val m.d, .val (tT K), .val (Tg t)] = .ok [none, none, none] (tT (kb m K t)) := by
  have i0 := hd_ix m
  have i1 := hd_last m
  have i2 := hd_win m
  have z1 : K.length + 1 ≤ 1000000 := by omega
  have hc : D.tup (K.map Tg ++ [Tg t]) = tT (K ++ [t]) := by unfold tT; rw [List.map_append]; rfl
  cases m with
  | last =>
    have q := lc_1 (v := 3) (ρ0 := [sv Me.last.d, sv (tT K), sv (Tg t), none]) (ρ := [sv Me.last.d, sv (tT K), sv (Tg t), none]) (di := iSeq (dName 1)) (t := (dBl (d2 neD (oV (d2 ixD (oPl 3) (oV (dC (.int 0))))) (oV (d2 ixD (oPl 2) (oV (dC (.int 0)))))))) (c := dName 3) (L := K) Tg (fun x => !decide (x.1 = t.1)) Tg (by simp) rfl (by simp [cfOf, startE, fin_, outsOf, retag, findTag, dRet, dSeq, dEnd, dNever, dIte, dIf, dDrop, dFld, dSet, toB, dC, dName, dBl, dNot, dAnd, dOr, tAndD, tOrD, tNotD, dTru, dBoolC, boolD, dIsi, dIsi2, dIsC, tyN, isN, d2, d3, oV, oPl, aNil, aCons, aStar, argB, argsB, ownPl, nodupB, wb, wb1, dCall, dMeth, oMake, oMake0, dSetFld, res, resAll, bV_val, bV_own, tD_lst, tD_ins, vals, dL, dLV, dTup, dLst, oLst, sz, ofO, i0D, iD, truD, dFz, R.bind, dAsg, gTp, gsCons, gsNil, gNm, dPar, setAll, dAug, dSetIx, isOwn, dApp, dFor, iVals, iRes, iSeq, dSl, pNo, pSome, dNeg, fdivD, modD, powD, mulA, mulI, absD, intD, max2D, min2D, max3D, min3D, isND, notND, dRaise, dDict, okP, flp, sq_tIs, sq_fIs, sq_tT, sq_lT, sq_tB, sq_lB, isq_tIs, isq_fIs, isq_tT, isq_lT, isq_tB, isq_lB, len_tIs, len_fIs, len_tT, len_lT, len_tB, len_lB, en_tIs, en_fIs, en_tT, en_lT, en_tB, en_lB, tup_tIs, tup_fIs, tup_tT, tup_lT, tup_tB, tup_lB, lst_tIs, lst_fIs, lst_tT, lst_lT, lst_tB, lst_lB, Tg_0, Tg_1, f_tIs, f_fIs, f_tT, f_lT, f_tB, f_lB, List.getElem?_set, List.getElem?_cons_zero, List.getElem?_cons_succ, List.getElem?_nil, sq_tup, sq_lst, isq_tup, isq_lst, len_tup, len_lst, add_int, le_int, lt_int, ge_int, gt_int, vals_c1, vals_c0, vals_st1, vals_st0, any_bl, all_bl, ix_t0, ix_t1, ix_t2, -getElem?_pos])
      (fun x _ => by simp [cfOf, startE, fin_, outsOf, retag, findTag, dRet, dSeq, dEnd, dNever, dIte, dIf, dDrop, dFld, dSet, toB, dC, dName, dBl, dNot, dAnd, dOr, tAndD, tOrD, tNotD, dTru, dBoolC, boolD, dIsi, dIsi2, dIsC, tyN, isN, d2, d3, oV, oPl, aNil, aCons, aStar, argB, argsB, ownPl, nodupB, wb, wb1, dCall, dMeth, oMake, oMake0, dSetFld, res, resAll, bV_val, bV_own, tD_lst, tD_ins, vals, dL, dLV, dTup, dLst, oLst, sz, ofO, i0D, iD, truD, dFz, R.bind, dAsg, gTp, gsCons, gsNil, gNm, dPar, setAll, dAug, dSetIx, isOwn, dApp, dFor, iVals, iRes, iSeq, dSl, pNo, pSome, dNeg, fdivD, modD, powD, mulA, mulI, absD, intD, max2D, min2D, max3D, min3D, isND, notND, dRaise, dDict, okP, flp, sq_tIs, sq_fIs, sq_tT, sq_lT, sq_tB, sq_lB, isq_tIs, isq_fIs, isq_tT, isq_lT, isq_tB, isq_lB, len_tIs, len_fIs, len_tT, len_lT, len_tB, len_lB, en_tIs, en_fIs, en_tT, en_lT, en_tB, en_lB, tup_tIs, tup_fIs, tup_tT, tup_lT, tup_tB, tup_lB, lst_tIs, lst_fIs, lst_tT, lst_lT, lst_tB, lst_lB, Tg_0, Tg_1, f_tIs, f_fIs, f_tT, f_lT, f_tB, f_lB, List.getElem?_set, List.getElem?_cons_zero, List.getElem?_cons_succ, List.getElem?_nil, sq_tup, sq_lst, isq_tup, isq_lst, len_tup, len_lst, add_int, le_int, lt_int, ge_int, gt_int, vals_c1, vals_c0, vals_st1, vals_st0, any_bl, all_bl, ix_t0, ix_t1, ix_t2, -getElem?_pos, ne_int])
      (fun x _ _ => by simp [cfOf, startE, fin_, outsOf, retag, findTag, dRet, dSeq, dEnd, dNever, dIte, dIf, dDrop, dFld, dSet, toB, dC, dName, dBl, dNot, dAnd, dOr, tAndD, tOrD, tNotD, dTru, dBoolC, boolD, dIsi, dIsi2, dIsC, tyN, isN, d2, d3, oV, oPl, aNil, aCons, aStar, argB, argsB, ownPl, nodupB, wb, wb1, dCall, dMeth, oMake, oMake0, dSetFld, res, resAll, bV_val, bV_own, tD_lst, tD_ins, vals, dL, dLV, dTup, dLst, oLst, sz, ofO, i0D, iD, truD, dFz, R.bind, dAsg, gTp, gsCons, gsNil, gNm, dPar, setAll, dAug, dSetIx, isOwn, dApp, dFor, iVals, iRes, iSeq, dSl, pNo, pSome, dNeg, fdivD, modD, powD, mulA, mulI, absD, intD, max2D, min2D, max3D, min3D, isND, notND, dRaise, dDict, okP, flp, sq_tIs, sq_fIs, sq_tT, sq_lT, sq_tB, sq_lB, isq_tIs, isq_fIs, isq_tT, isq_lT, isq_tB, isq_lB, len_tIs, len_fIs, len_tT, len_lT, len_tB, len_lB, en_tIs, en_fIs, en_tT, en_lT, en_tB, en_lB, tup_tIs, tup_fIs, tup_tT, tup_lT, tup_tB, tup_lB, lst_tIs, lst_fIs, lst_tT, lst_lT, lst_tB, lst_lB, Tg_0, Tg_1, f_tIs, f_fIs, f_tT, f_lT, f_tB, f_lB, List.getElem?_set, List.getElem?_cons_zero, List.getElem?_cons_succ, List.getElem?_nil, sq_tup, sq_lst, isq_tup, isq_lst, len_tup, len_lst, add_int, le_int, lt_int, ge_int, gt_int, vals_c1, vals_c0, vals_st1, vals_st0, any_bl, all_bl, ix_t0, ix_t1, ix_t2, -getElem?_pos]) (by omega)
    have hl : (K.filter fun x => !decide (x.1 = t.1)).length ≤ K.length := List.length_filter_le _ _
    have hs := sort_lT (C := K.filter (fun x => !decide (x.1 = t.1)) ++ [t]) (by simp)
    have hc' : D.lst ((K.filter fun x => !decide (x.1 = t.1)).map Tg ++ [Tg t]) = lT (K.filter (fun x => !decide (x.1 = t.1)) ++ [t]) := by unfold lT; rw [List.map_append]; rfl
    have z2 : (K.filter fun x => !decide (x.1 = t.1)).length + 1 ≤ 1000000 := by omega
    have hk : kb .last K t = sortP (K.filter (fun x => !decide (x.1 = t.1)) ++ [t]) := rfl
    rw [hk]
    generalize K.filter (fun x => !decide (x.1 = t.1)) = M at *
    simp [cfOf, startE, fin_, outsOf, retag, findTag, dRet, dSeq, dEnd, dNever, dIte, dIf, dDrop, dFld, dSet, toB, dC, dName, dBl, dNot, dAnd, dOr, tAndD, tOrD, tNotD, dTru, dBoolC, boolD, dIsi, dIsi2, dIsC, tyN, isN, d2, d3, oV, oPl, aNil, aCons, aStar, argB, argsB, ownPl, nodupB, wb, wb1, dCall, dMeth, oMake, oMake0, dSetFld, res, resAll, bV_val, bV_own, tD_lst, tD_ins, vals, dL, dLV, dTup, dLst, oLst, sz, ofO, i0D, iD, truD, dFz, R.bind, dAsg, gTp, gsCons, gsNil, gNm, dPar, setAll, dAug, dSetIx, isOwn, dApp, dFor, iVals, iRes, iSeq, dSl, pNo, pSome, dNeg, fdivD, modD, powD, mulA, mulI, absD, intD, max2D, min2D, max3D, min3D, isND, notND, dRaise, dDict, okP, flp, sq_tIs, sq_fIs, sq_tT, sq_lT, sq_tB, sq_lB, isq_tIs, isq_fIs, isq_tT, isq_lT, isq_tB, isq_lB, len_tIs, len_fIs, len_tT, len_lT, len_tB, len_lB, en_tIs, en_fIs, en_tT, en_lT, en_tB, en_lB, tup_tIs, tup_fIs, tup_tT, tup_lT, tup_tB, tup_lB, lst_tIs, lst_fIs, lst_tT, lst_lT, lst_tB, lst_lB, Tg_0, Tg_1, f_tIs, f_fIs, f_tT, f_lT, f_tB, f_lB, List.getElem?_set, List.getElem?_cons_zero, List.getElem?_cons_succ, List.getElem?_nil, sq_tup, sq_lst, isq_tup, isq_lst, len_tup, len_lst, add_int, le_int, lt_int, ge_int, gt_int, vals_c1, vals_c0, vals_st1, vals_st0, any_bl, all_bl, ix_t0, ix_t1, ix_t2, -getElem?_pos, F_kept_behind, D_kept_behind, i0, i1, Me.isLast, q, kb, vals_st1, z2, hc', hs]
  | all => simp [cfOf, startE, fin_, outsOf, retag, findTag, dRet, dSeq, dEnd, dNever, dIte, dIf, dDrop, dFld, dSet, toB, dC, dName, dBl, dNot, dAnd, dOr, tAndD, tOrD, tNotD, dTru, dBoolC, boolD, dIsi, dIsi2, dIsC, tyN, isN, d2, d3, oV, oPl, aNil, aCons, aStar, argB, argsB, ownPl, nodupB, wb, wb1, dCall, dMeth, oMake, oMake0, dSetFld, res, resAll, bV_val, bV_own, tD_lst, tD_ins, vals, dL, dLV, dTup, dLst, oLst, sz, ofO, i0D, iD, truD, dFz, R.bind, dAsg, gTp, gsCons, gsNil, gNm, dPar, setAll, dAug, dSetIx, isOwn, dApp, dFor, iVals, iRes, iSeq, dSl, pNo, pSome, dNeg, fdivD, modD, powD, mulA, mulI, absD, intD, max2D, min2D, max3D, min3D, isND, notND, dRaise, dDict, okP, flp, sq_tIs, sq_fIs, sq_tT, sq_lT, sq_tB, sq_lB, isq_tIs, isq_fIs, isq_tT, isq_lT, isq_tB, isq_lB, len_tIs, len_fIs, len_tT, len_lT, len_tB, len_lB, en_tIs, en_fIs, en_tT, en_lT, en_tB, en_lB, tup_tIs, tup_fIs, tup_tT, tup_lT, tup_tB, tup_lB, lst_tIs, lst_fIs, lst_tT, lst_lT, lst_tB, lst_lB, Tg_0, Tg_1, f_tIs, f_fIs, f_tT, f_lT, f_tB, f_lB, List.getElem?_set, List.getElem?_cons_zero, List.getElem?_cons_succ, List.getElem?_nil, sq_tup, sq_lst, isq_tup, isq_lst, len_tup, len_lst, add_int, le_int, lt_int, ge_int, gt_int, vals_c1, vals_c0, vals_st1, vals_st0, any_bl, all_bl, ix_t0, ix_t1, ix_t2, -getElem?_pos, F_kept_behind, D_kept_behind, i0, i1, i2, Me.isLast, Me.isWin, kb, vals_st1, z1, hc]
  | win w =>
    have iw : ixD (Me.win w).d (.int 1) = some (.int w) := rfl
    have hm : (if ((K ++ [t]).length : Int) - w > 0 then ((K ++ [t]).length : Int) - w else 0) = (((K ++ [t]).length - w : Nat) : Int) := by split <;> omega
    have hx := suf_tT (C := K ++ [t]) (k := (K ++ [t]).length - w) (by omega)
    generalize hM : K ++ [t] = M at *
    have hl : ¬ 1000000 < M.length := by rw [← hM]; simp; omega
    simp [cfOf, startE, fin_, outsOf, retag, findTag, dRet, dSeq, dEnd, dNever, dIte, dIf, dDrop, dFld, dSet, toB, dC, dName, dBl, dNot, dAnd, dOr, tAndD, tOrD, tNotD, dTru, dBoolC, boolD, dIsi, dIsi2, dIsC, tyN, isN, d2, d3, oV, oPl, aNil, aCons, aStar, argB, argsB, ownPl, nodupB, wb, wb1, dCall, dMeth, oMake, oMake0, dSetFld, res, resAll, bV_val, bV_own, tD_lst, tD_ins, vals, dL, dLV, dTup, dLst, oLst, sz, ofO, i0D, iD, truD, dFz, R.bind, dAsg, gTp, gsCons, gsNil, gNm, dPar, setAll, dAug, dSetIx, isOwn, dApp, dFor, iVals, iRes, iSeq, dSl, pNo, pSome, dNeg, fdivD, modD, powD, mulA, mulI, absD, intD, max2D, min2D, max3D, min3D, isND, notND, dRaise, dDict, okP, flp, sq_tIs, sq_fIs, sq_tT, sq_lT, sq_tB, sq_lB, isq_tIs, isq_fIs, isq_tT, isq_lT, isq_tB, isq_lB, len_tIs, len_fIs, len_tT, len_lT, len_tB, len_lB, en_tIs, en_fIs, en_tT, en_lT, en_tB, en_lB, tup_tIs, tup_fIs, tup_tT, tup_lT, tup_tB, tup_lB, lst_tIs, lst_fIs, lst_tT, lst_lT, lst_tB, lst_lB, Tg_0, Tg_1, f_tIs, f_fIs, f_tT, f_lT, f_tB, f_lB, List.getElem?_set, List.getElem?_cons_zero, List.getElem?_cons_succ, List.getElem?_nil, sq_tup, sq_lst, isq_tup, isq_lst, len_tup, len_lst, add_int, le_int, lt_int, ge_int, gt_int, vals_c1, vals_c0, vals_st1, vals_st0, any_bl, all_bl, ix_t0, ix_t1, ix_t2, -getElem?_pos, F_kept_behind, D_kept_behind, i0, i1, i2, Me.isLast, Me.isWin, kb, vals_st1, z1, hc, hM, iw, max2D]
    simp at hm
    rw [hm, hx]
end A
end
section
namespace A
open PySem Zd
set_option autoImplicit false
structure DB (m : Me) (K : List Pt) (F : List Bool) (ρ : Zd.Env) : Prop where
  len : ρ.length = 6
  m0 : ρ[0]? = some (sv m.d)
  k2 : ρ[2]? = some (sv (tT K))
  f3 : ρ[3]? = some (some (.own 0 (.lst (F.map D.bl))))
def dbBody : DSn := (dSeq (dSet 5 (oV (dNot (dBl (dCall F_is_known (aCons (oPl 0) (aCons (oPl 2) (aCons (oPl 4) aNil))))))))
    (dSeq (dApp 3 (dName 5))
    (dSet 2 (oV (dIf (dTru M_bool (oPl 5)) (dCall F_kept_behind (aCons (oPl 0) (aCons (oPl 2) (aCons (oPl 4) aNil)))) (dName 2))))))
theorem kb_len (m : Me) (K : List Pt) (t : Pt) : (kb m K t).length ≤ K.length + 1 := by
  cases m with
  | all => simp [kb]
  | last =>
    have h := (sortO_perm (lt := SrtO.lexB) (K.filter (fun l => !decide (l.1 = t.1)) ++ [t])).length_eq
    have h2 := List.length_filter_le (fun l : Pt => !decide (l.1 = t.1)) K
    simp only [List.length_append, List.length_cons, List.length_nil] at h
    show (sortO _ _).length ≤ _
    omega
  | win w =>
    have : ((K ++ [t]).drop ((K ++ [t]).length - w)).length ≤ (K ++ [t]).length := by rw [List.length_drop]; omega
    simp only [List.length_append, List.length_cons, List.length_nil] at this
    simp only [kb, List.length_append, List.length_cons, List.length_nil]
    exact this
theorem db_step {m : Me} {K : List Pt} {F : List Bool} {ρ : Zd.Env} {t : Pt} (h : DB m K F ρ) (h4 : ρ[4]? = some (sv (Tg t))) (hK : K.length ≤ 1000) (hF : F.length ≤ 1000) :
    ∃ ρ', dbBody ρ = .ok (ρ', .nx) ∧ DB m (if kn2 m K t = true then K else kb m K t) (F ++ [!kn2 m K t]) ρ' := by
  refine ⟨((ρ.set 5 (sv (.bl (!kn2 m K t)))).set 3 (some (.own 0 (.lst ((F ++ [!kn2 m K t]).map D.bl))))).set 2 (sv (tT (if kn2 m K t = true then K else kb m K t))), ?_, ?_⟩
  · unfold dbBody
    have hl := h.len
    have z : F.length + 1 ≤ 1000000 := by omega
    have e1 := f_is_known (m := m) (t := t) hK
    have e2 := f_kept_behind (m := m) (t := t) hK
    cases hk : kn2 m K t with
    | true =>
      rw [hk] at e1
      simp [cfOf, startE, fin_, outsOf, retag, findTag, dRet, dSeq, dEnd, dNever, dIte, dIf, dDrop, dFld, dSet, toB, dC, dName, dBl, dNot, dAnd, dOr, tAndD, tOrD, tNotD, dTru, dBoolC, boolD, dIsi, dIsi2, dIsC, tyN, isN, d2, d3, oV, oPl, aNil, aCons, aStar, argB, argsB, ownPl, nodupB, wb, wb1, dCall, dMeth, oMake, oMake0, dSetFld, res, resAll, bV_val, bV_own, tD_lst, tD_ins, vals, dL, dLV, dTup, dLst, oLst, sz, ofO, i0D, iD, truD, dFz, R.bind, dAsg, gTp, gsCons, gsNil, gNm, dPar, setAll, dAug, dSetIx, isOwn, dApp, dFor, iVals, iRes, iSeq, dSl, pNo, pSome, dNeg, fdivD, modD, powD, mulA, mulI, absD, intD, max2D, min2D, max3D, min3D, isND, notND, dRaise, dDict, okP, flp, sq_tIs, sq_fIs, sq_tT, sq_lT, sq_tB, sq_lB, isq_tIs, isq_fIs, isq_tT, isq_lT, isq_tB, isq_lB, len_tIs, len_fIs, len_tT, len_lT, len_tB, len_lB, en_tIs, en_fIs, en_tT, en_lT, en_tB, en_lB, tup_tIs, tup_fIs, tup_tT, tup_lT, tup_tB, tup_lB, lst_tIs, lst_fIs, lst_tT, lst_lT, lst_tB, lst_lB, Tg_0, Tg_1, f_tIs, f_fIs, f_tT, f_lT, f_tB, f_lB, List.getElem?_set, List.getElem?_cons_zero, List.getElem?_cons_succ, List.getElem?_nil, sq_tup, sq_lst, isq_tup, isq_lst, len_tup, len_lst, add_int, le_int, lt_int, ge_int, gt_int, vals_c1, vals_c0, vals_st1, vals_st0, any_bl, all_bl, ix_t0, ix_t1, ix_t2, -getElem?_pos, h.m0, h.k2, h.f3, h4, hl, e1, e2, z]
    | false =>
      rw [hk] at e1
      simp [cfOf, startE, fin_, outsOf, retag, findTag, dRet, dSeq, dEnd, dNever, dIte, dIf, dDrop, dFld, dSet, toB, dC, dName, dBl, dNot, dAnd, dOr, tAndD, tOrD, tNotD, dTru, dBoolC, boolD, dIsi, dIsi2, dIsC, tyN, isN, d2, d3, oV, oPl, aNil, aCons, aStar, argB, argsB, ownPl, nodupB, wb, wb1, dCall, dMeth, oMake, oMake0, dSetFld, res, resAll, bV_val, bV_own, tD_lst, tD_ins, vals, dL, dLV, dTup, dLst, oLst, sz, ofO, i0D, iD, truD, dFz, R.bind, dAsg, gTp, gsCons, gsNil, gNm, dPar, setAll, dAug, dSetIx, isOwn, dApp, dFor, iVals, iRes, iSeq, dSl, pNo, pSome, dNeg, fdivD, modD, powD, mulA, mulI, absD, intD, max2D, min2D, max3D, min3D, isND, notND, dRaise, dDict, okP, flp, sq_tIs, sq_fIs, sq_tT, sq_lT, sq_tB, sq_lB, isq_tIs, isq_fIs, isq_tT, isq_lT, isq_tB, isq_lB, len_tIs, len_fIs, len_tT, len_lT, len_tB, len_lB, en_tIs, en_fIs, en_tT, en_lT, en_tB, en_lB, tup_tIs, tup_fIs, tup_tT, tup_lT, tup_tB, tup_lB, lst_tIs, lst_fIs, lst_tT, lst_lT, lst_tB, lst_lB, Tg_0, Tg_1, f_tIs, f_fIs, f_tT, f_lT, f_tB, f_lB, List.getElem?_set, List.getElem?_cons_zero, List.getElem?_cons_succ, List.getElem?_nil, sq_tup, sq_lst, isq_tup, isq_lst, len_tup, len_lst, add_int, le_int, lt_int, ge_int, gt_int, vals_c1, vals_c0, vals_st1, vals_st0, any_bl, all_bl, ix_t0, ix_t1, ix_t2, -getElem?_pos, h.m0, h.k2, h.f3, h4, hl, e1, e2, z]
  · have hl := h.len
    exact ⟨by simp [hl], by simp [cfOf, startE, fin_, outsOf, retag, findTag, dRet, dSeq, dEnd, dNever, dIte, dIf, dDrop, dFld, dSet, toB, dC, dName, dBl, dNot, dAnd, dOr, tAndD, tOrD, tNotD, dTru, dBoolC, boolD, dIsi, dIsi2, dIsC, tyN, isN, d2, d3, oV, oPl, aNil, aCons, aStar, argB, argsB, ownPl, nodupB, wb, wb1, dCall, dMeth, oMake, oMake0, dSetFld, res, resAll, bV_val, bV_own, tD_lst, tD_ins, vals, dL, dLV, dTup, dLst, oLst, sz, ofO, i0D, iD, truD, dFz, R.bind, dAsg, gTp, gsCons, gsNil, gNm, dPar, setAll, dAug, dSetIx, isOwn, dApp, dFor, iVals, iRes, iSeq, dSl, pNo, pSome, dNeg, fdivD, modD, powD, mulA, mulI, absD, intD, max2D, min2D, max3D, min3D, isND, notND, dRaise, dDict, okP, flp, sq_tIs, sq_fIs, sq_tT, sq_lT, sq_tB, sq_lB, isq_tIs, isq_fIs, isq_tT, isq_lT, isq_tB, isq_lB, len_tIs, len_fIs, len_tT, len_lT, len_tB, len_lB, en_tIs, en_fIs, en_tT, en_lT, en_tB, en_lB, tup_tIs, tup_fIs, tup_tT, tup_lT, tup_tB, tup_lB, lst_tIs, lst_fIs, lst_tT, lst_lT, lst_tB, lst_lB, Tg_0, Tg_1, f_tIs, f_fIs, f_tT, f_lT, f_tB, f_lB, List.getElem?_set, List.getElem?_cons_zero, List.getElem?_cons_succ, List.getElem?_nil, sq_tup, sq_lst, isq_tup, isq_lst, len_tup, len_lst, add_int, le_int, lt_int, ge_int, gt_int, vals_c1, vals_c0, vals_st1, vals_st0, any_bl, all_bl, ix_t0, ix_t1, ix_t2, -getElem?_pos, h.m0], by simp [cfOf, startE, fin_, outsOf, retag, findTag, dRet, dSeq, dEnd, dNever, dIte, dIf, dDrop, dFld, dSet, toB, dC, dName, dBl, dNot, dAnd, dOr, tAndD, tOrD, tNotD, dTru, dBoolC, boolD, dIsi, dIsi2, dIsC, tyN, isN, d2, d3, oV, oPl, aNil, aCons, aStar, argB, argsB, ownPl, nodupB, wb, wb1, dCall, dMeth, oMake, oMake0, dSetFld, res, resAll, bV_val, bV_own, tD_lst, tD_ins, vals, dL, dLV, dTup, dLst, oLst, sz, ofO, i0D, iD, truD, dFz, R.bind, dAsg, gTp, gsCons, gsNil, gNm, dPar, setAll, dAug, dSetIx, isOwn, dApp, dFor, iVals, iRes, iSeq, dSl, pNo, pSome, dNeg, fdivD, modD, powD, mulA, mulI, absD, intD, max2D, min2D, max3D, min3D, isND, notND, dRaise, dDict, okP, flp, sq_tIs, sq_fIs, sq_tT, sq_lT, sq_tB, sq_lB, isq_tIs, isq_fIs, isq_tT, isq_lT, isq_tB, isq_lB, len_tIs, len_fIs, len_tT, len_lT, len_tB, len_lB, en_tIs, en_fIs, en_tT, en_lT, en_tB, en_lB, tup_tIs, tup_fIs, tup_tT, tup_lT, tup_tB, tup_lB, lst_tIs, lst_fIs, lst_tT, lst_lT, lst_tB, lst_lB, Tg_0, Tg_1, f_tIs, f_fIs, f_tT, f_lT, f_tB, f_lB, List.getElem?_set, List.getElem?_cons_zero, List.getElem?_cons_succ, List.getElem?_nil, sq_tup, sq_lst, isq_tup, isq_lst, len_tup, len_lst, add_int, le_int, lt_int, ge_int, gt_int, vals_c1, vals_c0, vals_st1, vals_st0, any_bl, all_bl, ix_t0, ix_t1, ix_t2, -getElem?_pos, hl], by simp [cfOf, startE, fin_, outsOf, retag, findTag, dRet, dSeq, dEnd, dNever, dIte, dIf, dDrop, dFld, dSet, toB, dC, dName, dBl, dNot, dAnd, dOr, tAndD, tOrD, tNotD, dTru, dBoolC, boolD, dIsi, dIsi2, dIsC, tyN, isN, d2, d3, oV, oPl, aNil, aCons, aStar, argB, argsB, ownPl, nodupB, wb, wb1, dCall, dMeth, oMake, oMake0, dSetFld, res, resAll, bV_val, bV_own, tD_lst, tD_ins, vals, dL, dLV, dTup, dLst, oLst, sz, ofO, i0D, iD, truD, dFz, R.bind, dAsg, gTp, gsCons, gsNil, gNm, dPar, setAll, dAug, dSetIx, isOwn, dApp, dFor, iVals, iRes, iSeq, dSl, pNo, pSome, dNeg, fdivD, modD, powD, mulA, mulI, absD, intD, max2D, min2D, max3D, min3D, isND, notND, dRaise, dDict, okP, flp, sq_tIs, sq_fIs, sq_tT, sq_lT, sq_tB, sq_lB, isq_tIs, isq_fIs, isq_tT, isq_lT, isq_tB, isq_lB, len_tIs, len_fIs, len_tT, len_lT, len_tB, len_lB, en_tIs, en_fIs, en_tT, en_lT, en_tB, en_lB, tup_tIs, tup_fIs, tup_tT, tup_lT, tup_tB, tup_lB, lst_tIs, lst_fIs, lst_tT, lst_lT, lst_tB, lst_lB, Tg_0, Tg_1, f_tIs, f_fIs, f_tT, f_lT, f_tB, f_lB, List.getElem?_set, List.getElem?_cons_zero, List.getElem?_cons_succ, List.getElem?_nil, sq_tup, sq_lst, isq_tup, isq_lst, len_tup, len_lst, add_int, le_int, lt_int, ge_int, gt_int, vals_c1, vals_c0, vals_st1, vals_st0, any_bl, all_bl, ix_t0, ix_t1, ix_t2, -getElem?_pos, hl]⟩
theorem db_loop {m : Me} : ∀ (C K : List Pt) (F : List Bool) (ρ : Zd.Env), DB m K F ρ → K.length + C.length ≤ 1000 → F.length + C.length ≤ 1000 →
    ∃ ρ', fl (gNm 4) dbBody (C.map Tg) ρ = .ok (ρ', .nx) ∧ ρ'[3]? = some (some (.own 0 (.lst ((F ++ run2 m K C).map D.bl))))
  | [], K, F, ρ, h, _, _ => ⟨ρ, rfl, by simpa [run2] using h.f3⟩
  | t :: C, K, F, ρ, h, hK, hF => by
    simp only [List.length_cons] at hK hF
    have hl := h.len
    have hi : DB m K F (ρ.set 4 (sv (Tg t))) := ⟨by simp [hl], by simp [cfOf, startE, fin_, outsOf, retag, findTag, dRet, dSeq, dEnd, dNever, dIte, dIf, dDrop, dFld, dSet, toB, dC, dName, dBl, dNot, dAnd, dOr, tAndD, tOrD, tNotD, dTru, dBoolC, boolD, dIsi, dIsi2, dIsC, tyN, isN, d2, d3, oV, oPl, aNil, aCons, aStar, argB, argsB, ownPl, nodupB, wb, wb1, dCall, dMeth, oMake, oMake0, dSetFld, res, resAll, bV_val, bV_own, tD_lst, tD_ins, vals, dL, dLV, dTup, dLst, oLst, sz, ofO, i0D, iD, truD, dFz, R.bind, dAsg, gTp, gsCons, gsNil, gNm, dPar, setAll, dAug, dSetIx, isOwn, dApp, dFor, iVals, iRes, iSeq, dSl, pNo, pSome, dNeg, fdivD, modD, powD, mulA, mulI, absD, intD, max2D, min2D, max3D, min3D, isND, notND, dRaise, dDict, okP, flp, sq_tIs, sq_fIs, sq_tT, sq_lT, sq_tB, sq_lB, isq_tIs, isq_fIs, isq_tT, isq_lT, isq_tB, isq_lB, len_tIs, len_fIs, len_tT, len_lT, len_tB, len_lB, en_tIs, en_fIs, en_tT, en_lT, en_tB, en_lB, tup_tIs, tup_fIs, tup_tT, tup_lT, tup_tB, tup_lB, lst_tIs, lst_fIs, lst_tT, lst_lT, lst_tB, lst_lB, Tg_0, Tg_1, f_tIs, f_fIs, f_tT, f_lT, f_tB, f_lB, List.getElem?_set, List.getElem?_cons_zero, List.getElem?_cons_succ, List.getElem?_nil, sq_tup, sq_lst, isq_tup, isq_lst, len_tup, len_lst, add_int, le_int, lt_int, ge_int, gt_int, vals_c1, vals_c0, vals_st1, vals_st0, any_bl, all_bl, ix_t0, ix_t1, ix_t2, -getElem?_pos, h.m0], by simp [cfOf, startE, fin_, outsOf, retag, findTag, dRet, dSeq, dEnd, dNever, dIte, dIf, dDrop, dFld, dSet, toB, dC, dName, dBl, dNot, dAnd, dOr, tAndD, tOrD, tNotD, dTru, dBoolC, boolD, dIsi, dIsi2, dIsC, tyN, isN, d2, d3, oV, oPl, aNil, aCons, aStar, argB, argsB, ownPl, nodupB, wb, wb1, dCall, dMeth, oMake, oMake0, dSetFld, res, resAll, bV_val, bV_own, tD_lst, tD_ins, vals, dL, dLV, dTup, dLst, oLst, sz, ofO, i0D, iD, truD, dFz, R.bind, dAsg, gTp, gsCons, gsNil, gNm, dPar, setAll, dAug, dSetIx, isOwn, dApp, dFor, iVals, iRes, iSeq, dSl, pNo, pSome, dNeg, fdivD, modD, powD, mulA, mulI, absD, intD, max2D, min2D, max3D, min3D, isND, notND, dRaise, dDict, okP, flp, sq_tIs, sq_fIs, sq_tT, sq_lT, sq_tB, sq_lB, isq_tIs, isq_fIs, isq_tT, isq_lT, isq_tB, isq_lB, len_tIs, len_fIs, len_tT, len_lT, len_tB, len_lB, en_tIs, en_fIs, en_tT, en_lT, en_tB, en_lB, tup_tIs, tup_fIs, tup_tT, tup_lT, tup_tB, tup_lB, lst_tIs, lst_fIs, lst_tT, lst_lT, lst_tB, lst_lB, Tg_0, Tg_1, f_tIs, f_fIs, f_tT, f_lT, f_tB, f_lB, List.getElem?_set, List.getElem?_cons_zero, List.getElem?_cons_succ, List.getElem?_nil, sq_tup, sq_lst, isq_tup, isq_lst, len_tup, len_lst, add_int, le_int, lt_int, ge_int, gt_int, vals_c1, vals_c0, vals_st1, vals_st0, any_bl, all_bl, ix_t0, ix_t1, ix_t2, -getElem?_pos, h.k2], by simp [cfOf, startE, fin_, outsOf, retag, findTag, dRet, dSeq, dEnd, dNever, dIte, dIf, dDrop, dFld, dSet, toB, dC, dName, dBl, dNot, dAnd, dOr, tAndD, tOrD, tNotD, dTru, dBoolC, boolD, dIsi, dIsi2, dIsC, tyN, isN, d2, d3, oV, oPl, aNil, aCons, aStar, argB, argsB, ownPl, nodupB, wb, wb1, dCall, dMeth, oMake, oMake0, dSetFld, res, resAll, bV_val, bV_own, tD_lst, tD_ins, vals, dL, dLV, dTup, dLst, oLst, sz, ofO, i0D, iD, truD, dFz, R.bind, dAsg, gTp, gsCons, gsNil, gNm, dPar, setAll, dAug, dSetIx, isOwn, dApp, dFor, iVals, iRes, iSeq, dSl, pNo, pSome, dNeg, fdivD, modD, powD, mulA, mulI, absD, intD, max2D, min2D, max3D, min3D, isND, notND, dRaise, dDict, okP, flp, sq_tIs, sq_fIs, sq_tT, sq_lT, sq_tB, sq_lB, isq_tIs, isq_fIs, isq_tT, isq_lT, isq_tB, isq_lB, len_tIs, len_fIs, len_tT, len_lT, len_tB, len_lB, en_tIs, en_fIs, en_tT, en_lT, en_tB, en_lB, tup_tIs, tup_fIs, tup_tT, tup_lT, tup_tB, tup_lB, lst_tIs, lst_fIs, lst_tT, lst_lT, lst_tB, lst_lB, Tg_0, Tg_1, f_tIs, f_fIs, f_tT, f_lT, f_tB, f_lB, List.getElem?_set, List.getElem?_cons_zero, List.getElem?_cons_succ, List.getElem?_nil, sq_tup, sq_lst, isq_tup, isq_lst, len_tup, len_lst, add_int, le_int, lt_int, ge_int, gt_int, vals_c1, vals_c0, vals_st1, vals_st0, any_bl, all_bl, ix_t0, ix_t1, ix_t2, -getElem?_pos, h.f3]⟩
    obtain ⟨ρ1, e1, h1⟩ := db_step (t := t) hi (by simp [cfOf, startE, fin_, outsOf, retag, findTag, dRet, dSeq, dEnd, dNever, dIte, dIf, dDrop, dFld, dSet, toB, dC, dName, dBl, dNot, dAnd, dOr, tAndD, tOrD, tNotD, dTru, dBoolC, boolD, dIsi, dIsi2, dIsC, tyN, isN, d2, d3, oV, oPl, aNil, aCons, aStar, argB, argsB, ownPl, nodupB, wb, wb1, dCall, dMeth, oMake, oMake0, dSetFld, res, resAll, bV_val, bV_own, tD_lst, tD_ins, vals, dL, dLV, dTup, dLst, oLst, sz, ofO, i0D, iD, truD, dFz, R.bind, dAsg, gTp, gsCons, gsNil, gNm, dPar, setAll, dAug, dSetIx, isOwn, dApp, dFor, iVals, iRes, iSeq, dSl, pNo, pSome, dNeg, fdivD, modD, powD, mulA, mulI, absD, intD, max2D, min2D, max3D, min3D, isND, notND, dRaise, dDict, okP, flp, sq_tIs, sq_fIs, sq_tT, sq_lT, sq_tB, sq_lB, isq_tIs, isq_fIs, isq_tT, isq_lT, isq_tB, isq_lB, len_tIs, len_fIs, len_tT, len_lT, len_tB, len_lB, en_tIs, en_fIs, en_tT, en_lT, en_tB, en_lB, tup_tIs, tup_fIs, tup_tT, tup_lT, tup_tB, tup_lB, lst_tIs, lst_fIs, lst_tT, lst_lT, lst_tB, lst_lB, Tg_0, Tg_1, f_tIs, f_fIs, f_tT, f_lT, f_tB, f_lB, List.getElem?_set, List.getElem?_cons_zero, List.getElem?_cons_succ, List.getElem?_nil, sq_tup, sq_lst, isq_tup, isq_lst, len_tup, len_lst, add_int, le_int, lt_int, ge_int, gt_int, vals_c1, vals_c0, vals_st1, vals_st0, any_bl, all_bl, ix_t0, ix_t1, ix_t2, -getElem?_pos, hl]) (by omega) (by omega)
    have hK' : (if kn2 m K t = true then K else kb m K t).length ≤ K.length + 1 := by
      split
      · omega
      · exact kb_len m K t
    obtain ⟨ρ2, e2, h2⟩ := db_loop C _ _ ρ1 h1 (by omega) (by simp only [List.length_append, List.length_cons, List.length_nil]; omega)
    refine ⟨ρ2, ?_, by rw [h2]; simp [run2]⟩
    have eg : gNm 4 (Tg t) ρ = some (ρ.set 4 (sv (Tg t))) := rfl
    simp [fl, eg, ofO, R.bind, e1, e2]
theorem f_done_by' {m : Me} {C : List Pt} (hm : m.ok) (hC : C.length ≤ 24) (h : ∀ p ∈ C, TagOk p) : F_done_by [.val m.d, .val (tT C)] = .ok [none, none] (tB (run2 m [] C)) := by
  have a1 := f_check_memory hm
  have a2 := f_check_comes hC h
  obtain ⟨ρ', e, h1⟩ := db_loop (m := m) C [] [] [sv m.d, sv (tT C), sv (tT []), some (.own 0 (.lst [])), none, none] ⟨rfl, rfl, rfl, rfl⟩ (by simp; omega) (by simp; omega)
  unfold dbBody at e
  have e0 : tT [] = .tup [] := rfl
  rw [e0] at e
  simp [cfOf, startE, fin_, outsOf, retag, findTag, dRet, dSeq, dEnd, dNever, dIte, dIf, dDrop, dFld, dSet, toB, dC, dName, dBl, dNot, dAnd, dOr, tAndD, tOrD, tNotD, dTru, dBoolC, boolD, dIsi, dIsi2, dIsC, tyN, isN, d2, d3, oV, oPl, aNil, aCons, aStar, argB, argsB, ownPl, nodupB, wb, wb1, dCall, dMeth, oMake, oMake0, dSetFld, res, resAll, bV_val, bV_own, tD_lst, tD_ins, vals, dL, dLV, dTup, dLst, oLst, sz, ofO, i0D, iD, truD, dFz, R.bind, dAsg, gTp, gsCons, gsNil, gNm, dPar, setAll, dAug, dSetIx, isOwn, dApp, dFor, iVals, iRes, iSeq, dSl, pNo, pSome, dNeg, fdivD, modD, powD, mulA, mulI, absD, intD, max2D, min2D, max3D, min3D, isND, notND, dRaise, dDict, okP, flp, sq_tIs, sq_fIs, sq_tT, sq_lT, sq_tB, sq_lB, isq_tIs, isq_fIs, isq_tT, isq_lT, isq_tB, isq_lB, len_tIs, len_fIs, len_tT, len_lT, len_tB, len_lB, en_tIs, en_fIs, en_tT, en_lT, en_tB, en_lB, tup_tIs, tup_fIs, tup_tT, tup_lT, tup_tB, tup_lB, lst_tIs, lst_fIs, lst_tT, lst_lT, lst_tB, lst_lB, Tg_0, Tg_1, f_tIs, f_fIs, f_tT, f_lT, f_tB, f_lB, List.getElem?_set, List.getElem?_cons_zero, List.getElem?_cons_succ, List.getElem?_nil, sq_tup, sq_lst, isq_tup, isq_lst, len_tup, len_lst, add_int, le_int, lt_int, ge_int, gt_int, vals_c1, vals_c0, vals_st1, vals_st0, any_bl, all_bl, ix_t0, ix_t1, ix_t2, -getElem?_pos, F_done_by, D_done_by, a1, a2, e, h1]
/-! ### the two keep alike -/
def Rel (m : Me) (E K : List Pt) : Prop := match m with
  | .all => K = E
  | .last => ∀ c n : Int, (K.any fun l => decide (l.1 = c) && decide (n ≤ l.2)) = (E.any fun l => decide (l.1 = c) && decide (n ≤ l.2))
  | .win w => K = E.drop (E.length - w)
theorem rel_kn {m : Me} {E K : List Pt} (h : Rel m E K) (t : Pt) : kn2 m K t = kn m E t := by
  cases m with
  | all => rw [show K = E from h]; rfl
  | last => exact h t.1 t.2
  | win w => rw [show K = _ from h]; rfl
theorem any_snoc (E : List Pt) (t : Pt) (p : Pt → Bool) : (E ++ [t]).any p = (E.any p || p t) := by simp
theorem rel_kb {m : Me} {E K : List Pt} {t : Pt} (h : Rel m E K) (hk : kn m E t = false) : Rel m (E ++ [t]) (kb m K t) := by
  cases m with
  | all => rw [show K = E from h]; rfl
  | last =>
    intro c n
    have hp : ∀ p : Pt → Bool, (kb .last K t).any p = (K.filter (fun l => !decide (l.1 = t.1)) ++ [t]).any p := fun p => by
      rw [Bool.eq_iff_iff, List.any_eq_true, List.any_eq_true]
      have := sortO_perm (lt := SrtO.lexB) (K.filter (fun l => !decide (l.1 = t.1)) ++ [t])
      exact ⟨fun ⟨x, h1, h2⟩ => ⟨x, this.mem_iff.mp h1, h2⟩, fun ⟨x, h1, h2⟩ => ⟨x, this.mem_iff.mpr h1, h2⟩⟩
    rw [hp, any_snoc, any_snoc]
    by_cases hc : t.1 = c
    · subst hc
      have k1 : ((K.filter fun l => !decide (l.1 = t.1)).any fun l => decide (l.1 = t.1) && decide (n ≤ l.2)) = false := by
        rw [List.any_eq_false]
        intro x hx
        have := (List.mem_filter.mp hx).2
        simp at this
        simp [this]
      rw [k1]
      by_cases hn : n ≤ t.2
      · simp [hn]
      · have : (E.any fun l => decide (l.1 = t.1) && decide (n ≤ l.2)) = false := by
          rw [List.any_eq_false]
          intro x hx
          have hk' : (E.any fun l => decide (l.1 = t.1) && decide (t.2 ≤ l.2)) = false := hk
          rw [List.any_eq_false] at hk'
          have := hk' x hx
          simp at this ⊢
          intro e
          have := this e
          omega
        rw [this]
    · have k1 : ((K.filter fun l => !decide (l.1 = t.1)).any fun l => decide (l.1 = c) && decide (n ≤ l.2)) = (K.any fun l => decide (l.1 = c) && decide (n ≤ l.2)) := by
        rw [Bool.eq_iff_iff, List.any_eq_true, List.any_eq_true]
        constructor
        · rintro ⟨x, h1, h2⟩
          exact ⟨x, (List.mem_filter.mp h1).1, h2⟩
        · rintro ⟨x, h1, h2⟩
          refine ⟨x, List.mem_filter.mpr ⟨h1, ?_⟩, h2⟩
          simp at h2 ⊢
          rw [h2.1]
          exact fun e => hc e.symm
      rw [k1, h c n]
  | win w =>
    show (K ++ [t]).drop ((K ++ [t]).length - w) = (E ++ [t]).drop ((E ++ [t]).length - w)
    rw [show K = E.drop (E.length - w) from h]
    simp only [List.length_append, List.length_cons, List.length_nil, List.length_drop]
    by_cases hw : w ≤ E.length
    · cases w with
      | zero =>
        rw [List.drop_of_length_le (by simp), List.drop_of_length_le (by simp)]
      | succ w =>
        have e1 : E.length - (E.length - (w + 1)) + 1 - (w + 1) = 1 := by omega
        have e2 : E.length + 1 - (w + 1) = (E.length - (w + 1)) + 1 := by omega
        rw [e1, e2]
        rw [List.drop_append_of_le_length (by simp; omega), List.drop_append_of_le_length (by omega), List.drop_drop]
    · have e1 : E.length - w = 0 := by omega
      rw [e1]
      simp
theorem run_eq {m : Me} : ∀ (C E K : List Pt), Rel m E K → run2 m K C = run m E C
  | [], _, _, _ => rfl
  | t :: C, E, K, h => by
    have e := rel_kn h t
    cases hk : kn m E t with
    | true =>
      rw [hk] at e
      simp [run2, run, e, hk, run_eq C E K h]
    | false =>
      rw [hk] at e
      simp [run2, run, e, hk, run_eq C _ _ (rel_kb h hk)]
theorem f_done_by {m : Me} {C : List Pt} (hm : m.ok) (hC : C.length ≤ 24) (h : ∀ p ∈ C, TagOk p) : F_done_by [.val m.d, .val (tT C)] = .ok [none, none] (tB (run m [] C)) := by
  rw [f_done_by' hm hC h, run_eq C [] []]
  cases m with
  | all => rfl
  | last => exact fun _ _ => rfl
  | win w =>
    show [] = List.drop _ []
    simp
end A
end
section
namespace A
open PySem Zd
set_option autoImplicit false
def fst1 (C : List Pt) (k : Nat) : Bool := match C[k]? with
  | some t => !decide (t ∈ C.take k)
  | none => true
def dif (C : List Pt) (p : Nat × Bool) : Bool := !decide (p.2 = fst1 C p.1)
def due (m : Me) (C : List Pt) : Option (Nat × Bool) := (enL 0 (run m [] C)).find? (dif C)
def how (b : Bool) : D := .str (if b = true then "twice" else "dropped")
def dueD : Option (Nat × Bool) → D
  | none => .non
  | some p => .tup [.int p.1, how p.2]
def toldD : Option (Nat × Bool) → D
  | none => .ins 0 []
  | some p => .ins 1 [.int p.1, how p.2]
theorem f_mis (i : Int) (b : Bool) : F_Misdonedd_initdd [.own 0 (.ins 1 []), iv i, .val (how b)] = .ok [some (.ins 1 [.int i, how b]), none, none] .non := by
  generalize how b = h
  simp [cfOf, startE, fin_, outsOf, retag, findTag, dRet, dSeq, dEnd, dNever, dIte, dIf, dDrop, dFld, dSet, toB, dC, dName, dBl, dNot, dAnd, dOr, tAndD, tOrD, tNotD, dTru, dBoolC, boolD, dIsi, dIsi2, dIsC, tyN, isN, d2, d3, oV, oPl, aNil, aCons, aStar, argB, argsB, ownPl, nodupB, wb, wb1, dCall, dMeth, oMake, oMake0, dSetFld, res, resAll, bV_val, bV_own, tD_lst, tD_ins, vals, dL, dLV, dTup, dLst, oLst, sz, ofO, i0D, iD, truD, dFz, R.bind, dAsg, gTp, gsCons, gsNil, gNm, dPar, setAll, dAug, dSetIx, isOwn, dApp, dFor, iVals, iRes, iSeq, dSl, pNo, pSome, dNeg, fdivD, modD, powD, mulA, mulI, absD, intD, max2D, min2D, max3D, min3D, isND, notND, dRaise, dDict, okP, flp, sq_tIs, sq_fIs, sq_tT, sq_lT, sq_tB, sq_lB, isq_tIs, isq_fIs, isq_tT, isq_lT, isq_tB, isq_lB, len_tIs, len_fIs, len_tT, len_lT, len_tB, len_lB, en_tIs, en_fIs, en_tT, en_lT, en_tB, en_lB, tup_tIs, tup_fIs, tup_tT, tup_lT, tup_tB, tup_lB, lst_tIs, lst_fIs, lst_tT, lst_lT, lst_tB, lst_lB, Tg_0, Tg_1, f_tIs, f_fIs, f_tT, f_lT, f_tB, f_lB, List.getElem?_set, List.getElem?_cons_zero, List.getElem?_cons_succ, List.getElem?_nil, sq_tup, sq_lst, isq_tup, isq_lst, len_tup, len_lst, add_int, le_int, lt_int, ge_int, gt_int, vals_c1, vals_c0, vals_st1, vals_st0, any_bl, all_bl, ix_t0, ix_t1, ix_t2, -getElem?_pos, F_Misdonedd_initdd, D_Misdonedd_initdd, fp_place, fp_how]
theorem f_law_judged {m : Me} {C : List Pt} (hC : C.length ≤ 24) : F__law_judged [.val m.d, .val (tT C)] = .ok [none, none] (dueD (due m C)) := by
  have hd := f_law_done (m := m) hC
  obtain ⟨ρ', h1, h2⟩ := fl_find (g := gTp (gsCons (gNm 2) (gsCons (gNm 3) gsNil))) (body := (dSeq (dSet 4 (oV (d2 (inD true) (oV (d2 ixD (oPl 1) (oPl 2))) (oV (dSl (oPl 1) pNo (pSome (dName 2)))))))
    (dIte (dBl (d2 neD (oPl 3) (oPl 4))) (dRet (dTup (aCons (oV (dName 2)) (aCons (oV (dIf (dTru M_bool (oPl 3)) (dC (.str "twice")) (dC (.str "dropped")))) aNil)))) (dEnd .nx))))
    (fun p : Nat × Bool => .tup [.int p.1, .bl p.2]) (dif C) (fun p => dueD (some p)) (fun ρ => ρ.length = 5 ∧ ρ[1]? = some (sv (tT C))) (enL 0 (run m [] C)) (fun p hp ρ hI => by
      obtain ⟨i, hi, hp⟩ := enL_mem hp
      have hlt : p.1 < C.length := by
        have := (List.getElem?_eq_some_iff.mp hp).1
        rw [run_len] at this
        omega
      obtain ⟨hl, h1⟩ := hI
      refine ⟨(ρ.set 2 (sv (.int p.1))).set 3 (sv (.bl p.2)), ((ρ.set 2 (sv (.int p.1))).set 3 (sv (.bl p.2))).set 4 (sv (.bl (fst1 C p.1))), rfl, ⟨by simp [hl], by simp [cfOf, startE, fin_, outsOf, retag, findTag, dRet, dSeq, dEnd, dNever, dIte, dIf, dDrop, dFld, dSet, toB, dC, dName, dBl, dNot, dAnd, dOr, tAndD, tOrD, tNotD, dTru, dBoolC, boolD, dIsi, dIsi2, dIsC, tyN, isN, d2, d3, oV, oPl, aNil, aCons, aStar, argB, argsB, ownPl, nodupB, wb, wb1, dCall, dMeth, oMake, oMake0, dSetFld, res, resAll, bV_val, bV_own, tD_lst, tD_ins, vals, dL, dLV, dTup, dLst, oLst, sz, ofO, i0D, iD, truD, dFz, R.bind, dAsg, gTp, gsCons, gsNil, gNm, dPar, setAll, dAug, dSetIx, isOwn, dApp, dFor, iVals, iRes, iSeq, dSl, pNo, pSome, dNeg, fdivD, modD, powD, mulA, mulI, absD, intD, max2D, min2D, max3D, min3D, isND, notND, dRaise, dDict, okP, flp, sq_tIs, sq_fIs, sq_tT, sq_lT, sq_tB, sq_lB, isq_tIs, isq_fIs, isq_tT, isq_lT, isq_tB, isq_lB, len_tIs, len_fIs, len_tT, len_lT, len_tB, len_lB, en_tIs, en_fIs, en_tT, en_lT, en_tB, en_lB, tup_tIs, tup_fIs, tup_tT, tup_lT, tup_tB, tup_lB, lst_tIs, lst_fIs, lst_tT, lst_lT, lst_tB, lst_lB, Tg_0, Tg_1, f_tIs, f_fIs, f_tT, f_lT, f_tB, f_lB, List.getElem?_set, List.getElem?_cons_zero, List.getElem?_cons_succ, List.getElem?_nil, sq_tup, sq_lst, isq_tup, isq_lst, len_tup, len_lst, add_int, le_int, lt_int, ge_int, gt_int, vals_c1, vals_c0, vals_st1, vals_st0, any_bl, all_bl, ix_t0, ix_t1, ix_t2, -getElem?_pos, h1]⟩, ?_⟩
      have e1 := ix_tT hlt
      have e2 := pre_tT (C := C) (k := p.1) (by omega)
      have e3 : fst1 C p.1 = !decide (C[p.1] ∈ C.take p.1) := by simp [fst1, hlt]
      have e4 : dif C p = !decide (p.2 = fst1 C p.1) := rfl
      have e5 : inD true (Tg C[p.1]) (tT (C.take p.1)) = some (.bl (fst1 C p.1)) := by rw [e3, in_tT]; rfl
      rw [e4]
      generalize Tg C[p.1] = u at *
      generalize fst1 C p.1 = q at *
      obtain ⟨p1, p2⟩ := p
      simp only at *
      cases p2 <;> cases q <;> simp [cfOf, startE, fin_, outsOf, retag, findTag, dRet, dSeq, dEnd, dNever, dIte, dIf, dDrop, dFld, dSet, toB, dC, dName, dBl, dNot, dAnd, dOr, tAndD, tOrD, tNotD, dTru, dBoolC, boolD, dIsi, dIsi2, dIsC, tyN, isN, d2, d3, oV, oPl, aNil, aCons, aStar, argB, argsB, ownPl, nodupB, wb, wb1, dCall, dMeth, oMake, oMake0, dSetFld, res, resAll, bV_val, bV_own, tD_lst, tD_ins, vals, dL, dLV, dTup, dLst, oLst, sz, ofO, i0D, iD, truD, dFz, R.bind, dAsg, gTp, gsCons, gsNil, gNm, dPar, setAll, dAug, dSetIx, isOwn, dApp, dFor, iVals, iRes, iSeq, dSl, pNo, pSome, dNeg, fdivD, modD, powD, mulA, mulI, absD, intD, max2D, min2D, max3D, min3D, isND, notND, dRaise, dDict, okP, flp, sq_tIs, sq_fIs, sq_tT, sq_lT, sq_tB, sq_lB, isq_tIs, isq_fIs, isq_tT, isq_lT, isq_tB, isq_lB, len_tIs, len_fIs, len_tT, len_lT, len_tB, len_lB, en_tIs, en_fIs, en_tT, en_lT, en_tB, en_lB, tup_tIs, tup_fIs, tup_tT, tup_lT, tup_tB, tup_lB, lst_tIs, lst_fIs, lst_tT, lst_lT, lst_tB, lst_lB, Tg_0, Tg_1, f_tIs, f_fIs, f_tT, f_lT, f_tB, f_lB, List.getElem?_set, List.getElem?_cons_zero, List.getElem?_cons_succ, List.getElem?_nil, sq_tup, sq_lst, isq_tup, isq_lst, len_tup, len_lst, add_int, le_int, lt_int, ge_int, gt_int, vals_c1, vals_c0, vals_st1, vals_st0, any_bl, all_bl, ix_t0, ix_t1, ix_t2, -getElem?_pos, hl, h1, e1, e2, e5, ne_bl, dueD, how])
    [sv m.d, sv (tT C), none, none, none] ⟨rfl, rfl⟩
  simp [cfOf, startE, fin_, outsOf, retag, findTag, dRet, dSeq, dEnd, dNever, dIte, dIf, dDrop, dFld, dSet, toB, dC, dName, dBl, dNot, dAnd, dOr, tAndD, tOrD, tNotD, dTru, dBoolC, boolD, dIsi, dIsi2, dIsC, tyN, isN, d2, d3, oV, oPl, aNil, aCons, aStar, argB, argsB, ownPl, nodupB, wb, wb1, dCall, dMeth, oMake, oMake0, dSetFld, res, resAll, bV_val, bV_own, tD_lst, tD_ins, vals, dL, dLV, dTup, dLst, oLst, sz, ofO, i0D, iD, truD, dFz, R.bind, dAsg, gTp, gsCons, gsNil, gNm, dPar, setAll, dAug, dSetIx, isOwn, dApp, dFor, iVals, iRes, iSeq, dSl, pNo, pSome, dNeg, fdivD, modD, powD, mulA, mulI, absD, intD, max2D, min2D, max3D, min3D, isND, notND, dRaise, dDict, okP, flp, sq_tIs, sq_fIs, sq_tT, sq_lT, sq_tB, sq_lB, isq_tIs, isq_fIs, isq_tT, isq_lT, isq_tB, isq_lB, len_tIs, len_fIs, len_tT, len_lT, len_tB, len_lB, en_tIs, en_fIs, en_tT, en_lT, en_tB, en_lB, tup_tIs, tup_fIs, tup_tT, tup_lT, tup_tB, tup_lB, lst_tIs, lst_fIs, lst_tT, lst_lT, lst_tB, lst_lB, Tg_0, Tg_1, f_tIs, f_fIs, f_tT, f_lT, f_tB, f_lB, List.getElem?_set, List.getElem?_cons_zero, List.getElem?_cons_succ, List.getElem?_nil, sq_tup, sq_lst, isq_tup, isq_lst, len_tup, len_lst, add_int, le_int, lt_int, ge_int, gt_int, vals_c1, vals_c0, vals_st1, vals_st0, any_bl, all_bl, ix_t0, ix_t1, ix_t2, -getElem?_pos, F__law_judged, D__law_judged, hd, h2, due]
  cases List.find? (dif C) (enL 0 (run m [] C)) <;> rfl
end A
end
section
namespace A
open PySem Zd
set_option autoImplicit false
theorem f_judge {m : Me} {C : List Pt} (hm : m.ok) (hC : C.length ≤ 24) (h : ∀ p ∈ C, TagOk p) : F_judge_comes [.val m.d, .val (tT C)] = .ok [none, none] (toldD (due m C)) := by
  have hd := f_done_by hm hC h
  obtain ⟨ρ', h1, h2⟩ := fl_find (g := gTp (gsCons (gNm 2) (gsCons (gNm 3) gsNil))) (body := (dSeq (dSet 4 (oV (d2 (inD true) (oV (d2 ixD (oPl 1) (oPl 2))) (oV (dSl (oV (dL listD (aCons (oPl 1) aNil))) pNo (pSome (dName 2)))))))
    (dIte (dBl (d2 neD (oPl 3) (oPl 4))) (dRet (dFz (oMake 1 F_Misdonedd_initdd (aCons (oPl 2) (aCons (oV (dIf (dTru M_bool (oPl 3)) (dC (.str "twice")) (dC (.str "dropped")))) aNil))))) (dEnd .nx))))
    (fun p : Nat × Bool => .tup [.int p.1, .bl p.2]) (dif C) (fun p => toldD (some p)) (fun ρ => ρ.length = 5 ∧ ρ[1]? = some (sv (tT C))) (enL 0 (run m [] C)) (fun p hp ρ hI => by
      obtain ⟨i, hi, hp⟩ := enL_mem hp
      have hlt : p.1 < C.length := by
        have := (List.getElem?_eq_some_iff.mp hp).1
        rw [run_len] at this
        omega
      obtain ⟨hl, h1⟩ := hI
      refine ⟨(ρ.set 2 (sv (.int p.1))).set 3 (sv (.bl p.2)), ((ρ.set 2 (sv (.int p.1))).set 3 (sv (.bl p.2))).set 4 (sv (.bl (fst1 C p.1))), rfl, ⟨by simp [hl], by simp [cfOf, startE, fin_, outsOf, retag, findTag, dRet, dSeq, dEnd, dNever, dIte, dIf, dDrop, dFld, dSet, toB, dC, dName, dBl, dNot, dAnd, dOr, tAndD, tOrD, tNotD, dTru, dBoolC, boolD, dIsi, dIsi2, dIsC, tyN, isN, d2, d3, oV, oPl, aNil, aCons, aStar, argB, argsB, ownPl, nodupB, wb, wb1, dCall, dMeth, oMake, oMake0, dSetFld, res, resAll, bV_val, bV_own, tD_lst, tD_ins, vals, dL, dLV, dTup, dLst, oLst, sz, ofO, i0D, iD, truD, dFz, R.bind, dAsg, gTp, gsCons, gsNil, gNm, dPar, setAll, dAug, dSetIx, isOwn, dApp, dFor, iVals, iRes, iSeq, dSl, pNo, pSome, dNeg, fdivD, modD, powD, mulA, mulI, absD, intD, max2D, min2D, max3D, min3D, isND, notND, dRaise, dDict, okP, flp, sq_tIs, sq_fIs, sq_tT, sq_lT, sq_tB, sq_lB, isq_tIs, isq_fIs, isq_tT, isq_lT, isq_tB, isq_lB, len_tIs, len_fIs, len_tT, len_lT, len_tB, len_lB, en_tIs, en_fIs, en_tT, en_lT, en_tB, en_lB, tup_tIs, tup_fIs, tup_tT, tup_lT, tup_tB, tup_lB, lst_tIs, lst_fIs, lst_tT, lst_lT, lst_tB, lst_lB, Tg_0, Tg_1, f_tIs, f_fIs, f_tT, f_lT, f_tB, f_lB, List.getElem?_set, List.getElem?_cons_zero, List.getElem?_cons_succ, List.getElem?_nil, sq_tup, sq_lst, isq_tup, isq_lst, len_tup, len_lst, add_int, le_int, lt_int, ge_int, gt_int, vals_c1, vals_c0, vals_st1, vals_st0, any_bl, all_bl, ix_t0, ix_t1, ix_t2, -getElem?_pos, h1]⟩, ?_⟩
      have e1 := ix_tT hlt
      have e2 := pre_lT (C := C) (k := p.1) (by omega)
      have e3 : fst1 C p.1 = !decide (C[p.1] ∈ C.take p.1) := by simp [fst1, hlt]
      have e4 : dif C p = !decide (p.2 = fst1 C p.1) := rfl
      have e5 : inD true (Tg C[p.1]) (lT (C.take p.1)) = some (.bl (fst1 C p.1)) := by rw [e3, in_lT]; rfl
      have e6 : listD [tT C] = some (lT C) := rfl
      have e7 := f_mis p.1 true
      have e8 := f_mis p.1 false
      rw [e4]
      generalize lT C = LC at *
      generalize Tg C[p.1] = u at *
      generalize fst1 C p.1 = q at *
      obtain ⟨p1, p2⟩ := p
      simp only at *
      simp [how] at e7 e8
      cases p2 <;> cases q <;> simp [cfOf, startE, fin_, outsOf, retag, findTag, dRet, dSeq, dEnd, dNever, dIte, dIf, dDrop, dFld, dSet, toB, dC, dName, dBl, dNot, dAnd, dOr, tAndD, tOrD, tNotD, dTru, dBoolC, boolD, dIsi, dIsi2, dIsC, tyN, isN, d2, d3, oV, oPl, aNil, aCons, aStar, argB, argsB, ownPl, nodupB, wb, wb1, dCall, dMeth, oMake, oMake0, dSetFld, res, resAll, bV_val, bV_own, tD_lst, tD_ins, vals, dL, dLV, dTup, dLst, oLst, sz, ofO, i0D, iD, truD, dFz, R.bind, dAsg, gTp, gsCons, gsNil, gNm, dPar, setAll, dAug, dSetIx, isOwn, dApp, dFor, iVals, iRes, iSeq, dSl, pNo, pSome, dNeg, fdivD, modD, powD, mulA, mulI, absD, intD, max2D, min2D, max3D, min3D, isND, notND, dRaise, dDict, okP, flp, sq_tIs, sq_fIs, sq_tT, sq_lT, sq_tB, sq_lB, isq_tIs, isq_fIs, isq_tT, isq_lT, isq_tB, isq_lB, len_tIs, len_fIs, len_tT, len_lT, len_tB, len_lB, en_tIs, en_fIs, en_tT, en_lT, en_tB, en_lB, tup_tIs, tup_fIs, tup_tT, tup_lT, tup_tB, tup_lB, lst_tIs, lst_fIs, lst_tT, lst_lT, lst_tB, lst_lB, Tg_0, Tg_1, f_tIs, f_fIs, f_tT, f_lT, f_tB, f_lB, List.getElem?_set, List.getElem?_cons_zero, List.getElem?_cons_succ, List.getElem?_nil, sq_tup, sq_lst, isq_tup, isq_lst, len_tup, len_lst, add_int, le_int, lt_int, ge_int, gt_int, vals_c1, vals_c0, vals_st1, vals_st0, any_bl, all_bl, ix_t0, ix_t1, ix_t2, -getElem?_pos, hl, h1, e1, e2, e5, e6, ne_bl, toldD, how, e7, e8])
    [sv m.d, sv (tT C), none, none, none] ⟨rfl, rfl⟩
  simp [cfOf, startE, fin_, outsOf, retag, findTag, dRet, dSeq, dEnd, dNever, dIte, dIf, dDrop, dFld, dSet, toB, dC, dName, dBl, dNot, dAnd, dOr, tAndD, tOrD, tNotD, dTru, dBoolC, boolD, dIsi, dIsi2, dIsC, tyN, isN, d2, d3, oV, oPl, aNil, aCons, aStar, argB, argsB, ownPl, nodupB, wb, wb1, dCall, dMeth, oMake, oMake0, dSetFld, res, resAll, bV_val, bV_own, tD_lst, tD_ins, vals, dL, dLV, dTup, dLst, oLst, sz, ofO, i0D, iD, truD, dFz, R.bind, dAsg, gTp, gsCons, gsNil, gNm, dPar, setAll, dAug, dSetIx, isOwn, dApp, dFor, iVals, iRes, iSeq, dSl, pNo, pSome, dNeg, fdivD, modD, powD, mulA, mulI, absD, intD, max2D, min2D, max3D, min3D, isND, notND, dRaise, dDict, okP, flp, sq_tIs, sq_fIs, sq_tT, sq_lT, sq_tB, sq_lB, isq_tIs, isq_fIs, isq_tT, isq_lT, isq_tB, isq_lB, len_tIs, len_fIs, len_tT, len_lT, len_tB, len_lB, en_tIs, en_fIs, en_tT, en_lT, en_tB, en_lB, tup_tIs, tup_fIs, tup_tT, tup_lT, tup_tB, tup_lB, lst_tIs, lst_fIs, lst_tT, lst_lT, lst_tB, lst_lB, Tg_0, Tg_1, f_tIs, f_fIs, f_tT, f_lT, f_tB, f_lB, List.getElem?_set, List.getElem?_cons_zero, List.getElem?_cons_succ, List.getElem?_nil, sq_tup, sq_lst, isq_tup, isq_lst, len_tup, len_lst, add_int, le_int, lt_int, ge_int, gt_int, vals_c1, vals_c0, vals_st1, vals_st0, any_bl, all_bl, ix_t0, ix_t1, ix_t2, -getElem?_pos, F_judge_comes, D_judge_comes, hd, h2, due]
  cases List.find? (dif C) (enL 0 (run m [] C)) <;> rfl
def eqd (d : Option (Nat × Bool)) (i : Int) (b : Bool) : Bool := match d with
  | none => false
  | some p => decide ((p.1 : Int) = i) && decide (p.2 = b)
theorem eq_ih (i j : Int) (b c : Bool) : eqD (.tup [.int i, how b]) (.tup [.int j, how c]) = some (.bl (decide (i = j) && decide (b = c))) := by
  have s1 : (("twice" : Str) == "dropped") = false := by kernel_rfl
  have s2 : (("dropped" : Str) == "twice") = false := by kernel_rfl
  have fn : ∀ (i : Int) (b : Bool), (D.tup [.int i, how b]).fine = true := fun i b => by
    cases b
    · exact fine_of (n := 1) (by kernel_rfl) (by simp [how, D.py, D.pys, PyData.depth, PyData.depthAll])
    · exact fine_of (n := 1) (by kernel_rfl) (by simp [how, D.py, D.pys, PyData.depth, PyData.depthAll])
  refine eqD_of (fn i b) (fn j c) ?_
  by_cases h : i = j <;> cases b <;> cases c <;> simp [how, D.eqb, D.eqbs, h, s1, s2]
theorem f_meq (i j : Int) (b c : Bool) : F_Misdonedd_eqdd [.val (.ins 1 [.int i, how b]), .val (.ins 1 [.int j, how c])] = .ok [none, none] (.bl (decide (i = j) && decide (b = c))) := by
  have := eq_ih i j b c
  generalize how b = x at *
  generalize how c = y at *
  simp [cfOf, startE, fin_, outsOf, retag, findTag, dRet, dSeq, dEnd, dNever, dIte, dIf, dDrop, dFld, dSet, toB, dC, dName, dBl, dNot, dAnd, dOr, tAndD, tOrD, tNotD, dTru, dBoolC, boolD, dIsi, dIsi2, dIsC, tyN, isN, d2, d3, oV, oPl, aNil, aCons, aStar, argB, argsB, ownPl, nodupB, wb, wb1, dCall, dMeth, oMake, oMake0, dSetFld, res, resAll, bV_val, bV_own, tD_lst, tD_ins, vals, dL, dLV, dTup, dLst, oLst, sz, ofO, i0D, iD, truD, dFz, R.bind, dAsg, gTp, gsCons, gsNil, gNm, dPar, setAll, dAug, dSetIx, isOwn, dApp, dFor, iVals, iRes, iSeq, dSl, pNo, pSome, dNeg, fdivD, modD, powD, mulA, mulI, absD, intD, max2D, min2D, max3D, min3D, isND, notND, dRaise, dDict, okP, flp, sq_tIs, sq_fIs, sq_tT, sq_lT, sq_tB, sq_lB, isq_tIs, isq_fIs, isq_tT, isq_lT, isq_tB, isq_lB, len_tIs, len_fIs, len_tT, len_lT, len_tB, len_lB, en_tIs, en_fIs, en_tT, en_lT, en_tB, en_lB, tup_tIs, tup_fIs, tup_tT, tup_lT, tup_tB, tup_lB, lst_tIs, lst_fIs, lst_tT, lst_lT, lst_tB, lst_lB, Tg_0, Tg_1, f_tIs, f_fIs, f_tT, f_lT, f_tB, f_lB, List.getElem?_set, List.getElem?_cons_zero, List.getElem?_cons_succ, List.getElem?_nil, sq_tup, sq_lst, isq_tup, isq_lst, len_tup, len_lst, add_int, le_int, lt_int, ge_int, gt_int, vals_c1, vals_c0, vals_st1, vals_st0, any_bl, all_bl, ix_t0, ix_t1, ix_t2, -getElem?_pos, F_Misdonedd_eqdd, D_Misdonedd_eqdd, iz_Misdone, fp_place, fp_how, this]
theorem f_meq0 (xs : List D) : F_Misdonedd_eqdd [.val (.ins 1 xs), .val (.ins 0 [])] = .ok [none, none] (.bl false) := by
  simp [cfOf, startE, fin_, outsOf, retag, findTag, dRet, dSeq, dEnd, dNever, dIte, dIf, dDrop, dFld, dSet, toB, dC, dName, dBl, dNot, dAnd, dOr, tAndD, tOrD, tNotD, dTru, dBoolC, boolD, dIsi, dIsi2, dIsC, tyN, isN, d2, d3, oV, oPl, aNil, aCons, aStar, argB, argsB, ownPl, nodupB, wb, wb1, dCall, dMeth, oMake, oMake0, dSetFld, res, resAll, bV_val, bV_own, tD_lst, tD_ins, vals, dL, dLV, dTup, dLst, oLst, sz, ofO, i0D, iD, truD, dFz, R.bind, dAsg, gTp, gsCons, gsNil, gNm, dPar, setAll, dAug, dSetIx, isOwn, dApp, dFor, iVals, iRes, iSeq, dSl, pNo, pSome, dNeg, fdivD, modD, powD, mulA, mulI, absD, intD, max2D, min2D, max3D, min3D, isND, notND, dRaise, dDict, okP, flp, sq_tIs, sq_fIs, sq_tT, sq_lT, sq_tB, sq_lB, isq_tIs, isq_fIs, isq_tT, isq_lT, isq_tB, isq_lB, len_tIs, len_fIs, len_tT, len_lT, len_tB, len_lB, en_tIs, en_fIs, en_tT, en_lT, en_tB, en_lB, tup_tIs, tup_fIs, tup_tT, tup_lT, tup_tB, tup_lB, lst_tIs, lst_fIs, lst_tT, lst_lT, lst_tB, lst_lB, Tg_0, Tg_1, f_tIs, f_fIs, f_tT, f_lT, f_tB, f_lB, List.getElem?_set, List.getElem?_cons_zero, List.getElem?_cons_succ, List.getElem?_nil, sq_tup, sq_lst, isq_tup, isq_lst, len_tup, len_lst, add_int, le_int, lt_int, ge_int, gt_int, vals_c1, vals_c0, vals_st1, vals_st0, any_bl, all_bl, ix_t0, ix_t1, ix_t2, -getElem?_pos, F_Misdonedd_eqdd, D_Misdonedd_eqdd, iz_Misdone]
theorem f_jeq0 : F_Justdd_eqdd [.val (.ins 0 []), .val (.ins 0 [])] = .ok [none, none] (.bl true) := by
  simp [cfOf, startE, fin_, outsOf, retag, findTag, dRet, dSeq, dEnd, dNever, dIte, dIf, dDrop, dFld, dSet, toB, dC, dName, dBl, dNot, dAnd, dOr, tAndD, tOrD, tNotD, dTru, dBoolC, boolD, dIsi, dIsi2, dIsC, tyN, isN, d2, d3, oV, oPl, aNil, aCons, aStar, argB, argsB, ownPl, nodupB, wb, wb1, dCall, dMeth, oMake, oMake0, dSetFld, res, resAll, bV_val, bV_own, tD_lst, tD_ins, vals, dL, dLV, dTup, dLst, oLst, sz, ofO, i0D, iD, truD, dFz, R.bind, dAsg, gTp, gsCons, gsNil, gNm, dPar, setAll, dAug, dSetIx, isOwn, dApp, dFor, iVals, iRes, iSeq, dSl, pNo, pSome, dNeg, fdivD, modD, powD, mulA, mulI, absD, intD, max2D, min2D, max3D, min3D, isND, notND, dRaise, dDict, okP, flp, sq_tIs, sq_fIs, sq_tT, sq_lT, sq_tB, sq_lB, isq_tIs, isq_fIs, isq_tT, isq_lT, isq_tB, isq_lB, len_tIs, len_fIs, len_tT, len_lT, len_tB, len_lB, en_tIs, en_fIs, en_tT, en_lT, en_tB, en_lB, tup_tIs, tup_fIs, tup_tT, tup_lT, tup_tB, tup_lB, lst_tIs, lst_fIs, lst_tT, lst_lT, lst_tB, lst_lB, Tg_0, Tg_1, f_tIs, f_fIs, f_tT, f_lT, f_tB, f_lB, List.getElem?_set, List.getElem?_cons_zero, List.getElem?_cons_succ, List.getElem?_nil, sq_tup, sq_lst, isq_tup, isq_lst, len_tup, len_lst, add_int, le_int, lt_int, ge_int, gt_int, vals_c1, vals_c0, vals_st1, vals_st0, any_bl, all_bl, ix_t0, ix_t1, ix_t2, -getElem?_pos, F_Justdd_eqdd, D_Justdd_eqdd, iz_Just]
theorem f_jeq1 (xs : List D) : F_Justdd_eqdd [.val (.ins 0 []), .val (.ins 1 xs)] = .ok [none, none] (.bl false) := by
  simp [cfOf, startE, fin_, outsOf, retag, findTag, dRet, dSeq, dEnd, dNever, dIte, dIf, dDrop, dFld, dSet, toB, dC, dName, dBl, dNot, dAnd, dOr, tAndD, tOrD, tNotD, dTru, dBoolC, boolD, dIsi, dIsi2, dIsC, tyN, isN, d2, d3, oV, oPl, aNil, aCons, aStar, argB, argsB, ownPl, nodupB, wb, wb1, dCall, dMeth, oMake, oMake0, dSetFld, res, resAll, bV_val, bV_own, tD_lst, tD_ins, vals, dL, dLV, dTup, dLst, oLst, sz, ofO, i0D, iD, truD, dFz, R.bind, dAsg, gTp, gsCons, gsNil, gNm, dPar, setAll, dAug, dSetIx, isOwn, dApp, dFor, iVals, iRes, iSeq, dSl, pNo, pSome, dNeg, fdivD, modD, powD, mulA, mulI, absD, intD, max2D, min2D, max3D, min3D, isND, notND, dRaise, dDict, okP, flp, sq_tIs, sq_fIs, sq_tT, sq_lT, sq_tB, sq_lB, isq_tIs, isq_fIs, isq_tT, isq_lT, isq_tB, isq_lB, len_tIs, len_fIs, len_tT, len_lT, len_tB, len_lB, en_tIs, en_fIs, en_tT, en_lT, en_tB, en_lB, tup_tIs, tup_fIs, tup_tT, tup_lT, tup_tB, tup_lB, lst_tIs, lst_fIs, lst_tT, lst_lT, lst_tB, lst_lB, Tg_0, Tg_1, f_tIs, f_fIs, f_tT, f_lT, f_tB, f_lB, List.getElem?_set, List.getElem?_cons_zero, List.getElem?_cons_succ, List.getElem?_nil, sq_tup, sq_lst, isq_tup, isq_lst, len_tup, len_lst, add_int, le_int, lt_int, ge_int, gt_int, vals_c1, vals_c0, vals_st1, vals_st0, any_bl, all_bl, ix_t0, ix_t1, ix_t2, -getElem?_pos, F_Justdd_eqdd, D_Justdd_eqdd, iz_Just]
theorem f_jb : F_Justdd_booldd [.val (.ins 0 [])] = .ok [none] (.bl true) := by simp [cfOf, startE, fin_, outsOf, retag, findTag, dRet, dSeq, dEnd, dNever, dIte, dIf, dDrop, dFld, dSet, toB, dC, dName, dBl, dNot, dAnd, dOr, tAndD, tOrD, tNotD, dTru, dBoolC, boolD, dIsi, dIsi2, dIsC, tyN, isN, d2, d3, oV, oPl, aNil, aCons, aStar, argB, argsB, ownPl, nodupB, wb, wb1, dCall, dMeth, oMake, oMake0, dSetFld, res, resAll, bV_val, bV_own, tD_lst, tD_ins, vals, dL, dLV, dTup, dLst, oLst, sz, ofO, i0D, iD, truD, dFz, R.bind, dAsg, gTp, gsCons, gsNil, gNm, dPar, setAll, dAug, dSetIx, isOwn, dApp, dFor, iVals, iRes, iSeq, dSl, pNo, pSome, dNeg, fdivD, modD, powD, mulA, mulI, absD, intD, max2D, min2D, max3D, min3D, isND, notND, dRaise, dDict, okP, flp, sq_tIs, sq_fIs, sq_tT, sq_lT, sq_tB, sq_lB, isq_tIs, isq_fIs, isq_tT, isq_lT, isq_tB, isq_lB, len_tIs, len_fIs, len_tT, len_lT, len_tB, len_lB, en_tIs, en_fIs, en_tT, en_lT, en_tB, en_lB, tup_tIs, tup_fIs, tup_tT, tup_lT, tup_tB, tup_lB, lst_tIs, lst_fIs, lst_tT, lst_lT, lst_tB, lst_lB, Tg_0, Tg_1, f_tIs, f_fIs, f_tT, f_lT, f_tB, f_lB, List.getElem?_set, List.getElem?_cons_zero, List.getElem?_cons_succ, List.getElem?_nil, sq_tup, sq_lst, isq_tup, isq_lst, len_tup, len_lst, add_int, le_int, lt_int, ge_int, gt_int, vals_c1, vals_c0, vals_st1, vals_st0, any_bl, all_bl, ix_t0, ix_t1, ix_t2, -getElem?_pos, F_Justdd_booldd, D_Justdd_booldd]
theorem f_mb (xs : List D) : F_Misdonedd_booldd [.val (.ins 1 xs)] = .ok [none] (.bl false) := by simp [cfOf, startE, fin_, outsOf, retag, findTag, dRet, dSeq, dEnd, dNever, dIte, dIf, dDrop, dFld, dSet, toB, dC, dName, dBl, dNot, dAnd, dOr, tAndD, tOrD, tNotD, dTru, dBoolC, boolD, dIsi, dIsi2, dIsC, tyN, isN, d2, d3, oV, oPl, aNil, aCons, aStar, argB, argsB, ownPl, nodupB, wb, wb1, dCall, dMeth, oMake, oMake0, dSetFld, res, resAll, bV_val, bV_own, tD_lst, tD_ins, vals, dL, dLV, dTup, dLst, oLst, sz, ofO, i0D, iD, truD, dFz, R.bind, dAsg, gTp, gsCons, gsNil, gNm, dPar, setAll, dAug, dSetIx, isOwn, dApp, dFor, iVals, iRes, iSeq, dSl, pNo, pSome, dNeg, fdivD, modD, powD, mulA, mulI, absD, intD, max2D, min2D, max3D, min3D, isND, notND, dRaise, dDict, okP, flp, sq_tIs, sq_fIs, sq_tT, sq_lT, sq_tB, sq_lB, isq_tIs, isq_fIs, isq_tT, isq_lT, isq_tB, isq_lB, len_tIs, len_fIs, len_tT, len_lT, len_tB, len_lB, en_tIs, en_fIs, en_tT, en_lT, en_tB, en_lB, tup_tIs, tup_fIs, tup_tT, tup_lT, tup_tB, tup_lB, lst_tIs, lst_fIs, lst_tT, lst_lT, lst_tB, lst_lB, Tg_0, Tg_1, f_tIs, f_fIs, f_tT, f_lT, f_tB, f_lB, List.getElem?_set, List.getElem?_cons_zero, List.getElem?_cons_succ, List.getElem?_nil, sq_tup, sq_lst, isq_tup, isq_lst, len_tup, len_lst, add_int, le_int, lt_int, ge_int, gt_int, vals_c1, vals_c0, vals_st1, vals_st0, any_bl, all_bl, ix_t0, ix_t1, ix_t2, -getElem?_pos, F_Misdonedd_booldd, D_Misdonedd_booldd]
theorem f_jshow {m : Me} {C : List Pt} (hm : m.ok) (hC : C.length ≤ 24) (h : ∀ p ∈ C, TagOk p) : F_Just_shows [.val (.ins 0 []), .val m.d, .val (tT C)] = .ok [none, none, none] (.bl (due m C).isNone) := by
  have hj := f_judge hm hC h
  cases hd : due m C with
  | none =>
    rw [hd] at hj
    simp [toldD] at hj
    simp [cfOf, startE, fin_, outsOf, retag, findTag, dRet, dSeq, dEnd, dNever, dIte, dIf, dDrop, dFld, dSet, toB, dC, dName, dBl, dNot, dAnd, dOr, tAndD, tOrD, tNotD, dTru, dBoolC, boolD, dIsi, dIsi2, dIsC, tyN, isN, d2, d3, oV, oPl, aNil, aCons, aStar, argB, argsB, ownPl, nodupB, wb, wb1, dCall, dMeth, oMake, oMake0, dSetFld, res, resAll, bV_val, bV_own, tD_lst, tD_ins, vals, dL, dLV, dTup, dLst, oLst, sz, ofO, i0D, iD, truD, dFz, R.bind, dAsg, gTp, gsCons, gsNil, gNm, dPar, setAll, dAug, dSetIx, isOwn, dApp, dFor, iVals, iRes, iSeq, dSl, pNo, pSome, dNeg, fdivD, modD, powD, mulA, mulI, absD, intD, max2D, min2D, max3D, min3D, isND, notND, dRaise, dDict, okP, flp, sq_tIs, sq_fIs, sq_tT, sq_lT, sq_tB, sq_lB, isq_tIs, isq_fIs, isq_tT, isq_lT, isq_tB, isq_lB, len_tIs, len_fIs, len_tT, len_lT, len_tB, len_lB, en_tIs, en_fIs, en_tT, en_lT, en_tB, en_lB, tup_tIs, tup_fIs, tup_tT, tup_lT, tup_tB, tup_lB, lst_tIs, lst_fIs, lst_tT, lst_lT, lst_tB, lst_lB, Tg_0, Tg_1, f_tIs, f_fIs, f_tT, f_lT, f_tB, f_lB, List.getElem?_set, List.getElem?_cons_zero, List.getElem?_cons_succ, List.getElem?_nil, sq_tup, sq_lst, isq_tup, isq_lst, len_tup, len_lst, add_int, le_int, lt_int, ge_int, gt_int, vals_c1, vals_c0, vals_st1, vals_st0, any_bl, all_bl, ix_t0, ix_t1, ix_t2, -getElem?_pos, F_Just_shows, D_Just_shows, hj, M_bool, f_jb]
  | some p =>
    rw [hd] at hj
    simp [toldD] at hj
    simp [cfOf, startE, fin_, outsOf, retag, findTag, dRet, dSeq, dEnd, dNever, dIte, dIf, dDrop, dFld, dSet, toB, dC, dName, dBl, dNot, dAnd, dOr, tAndD, tOrD, tNotD, dTru, dBoolC, boolD, dIsi, dIsi2, dIsC, tyN, isN, d2, d3, oV, oPl, aNil, aCons, aStar, argB, argsB, ownPl, nodupB, wb, wb1, dCall, dMeth, oMake, oMake0, dSetFld, res, resAll, bV_val, bV_own, tD_lst, tD_ins, vals, dL, dLV, dTup, dLst, oLst, sz, ofO, i0D, iD, truD, dFz, R.bind, dAsg, gTp, gsCons, gsNil, gNm, dPar, setAll, dAug, dSetIx, isOwn, dApp, dFor, iVals, iRes, iSeq, dSl, pNo, pSome, dNeg, fdivD, modD, powD, mulA, mulI, absD, intD, max2D, min2D, max3D, min3D, isND, notND, dRaise, dDict, okP, flp, sq_tIs, sq_fIs, sq_tT, sq_lT, sq_tB, sq_lB, isq_tIs, isq_fIs, isq_tT, isq_lT, isq_tB, isq_lB, len_tIs, len_fIs, len_tT, len_lT, len_tB, len_lB, en_tIs, en_fIs, en_tT, en_lT, en_tB, en_lB, tup_tIs, tup_fIs, tup_tT, tup_lT, tup_tB, tup_lB, lst_tIs, lst_fIs, lst_tT, lst_lT, lst_tB, lst_lB, Tg_0, Tg_1, f_tIs, f_fIs, f_tT, f_lT, f_tB, f_lB, List.getElem?_set, List.getElem?_cons_zero, List.getElem?_cons_succ, List.getElem?_nil, sq_tup, sq_lst, isq_tup, isq_lst, len_tup, len_lst, add_int, le_int, lt_int, ge_int, gt_int, vals_c1, vals_c0, vals_st1, vals_st0, any_bl, all_bl, ix_t0, ix_t1, ix_t2, -getElem?_pos, F_Just_shows, D_Just_shows, hj, M_bool, f_mb]
theorem f_mshow {m : Me} {C : List Pt} (hm : m.ok) (hC : C.length ≤ 24) (h : ∀ p ∈ C, TagOk p) (i : Int) (b : Bool) : F_Misdone_shows [.val (.ins 1 [.int i, how b]), .val m.d, .val (tT C)] = .ok [none, none, none] (.bl (eqd (due m C) i b)) := by
  have hj := f_judge hm hC h
  cases hd : due m C with
  | none =>
    rw [hd] at hj
    simp [toldD] at hj
    simp [cfOf, startE, fin_, outsOf, retag, findTag, dRet, dSeq, dEnd, dNever, dIte, dIf, dDrop, dFld, dSet, toB, dC, dName, dBl, dNot, dAnd, dOr, tAndD, tOrD, tNotD, dTru, dBoolC, boolD, dIsi, dIsi2, dIsC, tyN, isN, d2, d3, oV, oPl, aNil, aCons, aStar, argB, argsB, ownPl, nodupB, wb, wb1, dCall, dMeth, oMake, oMake0, dSetFld, res, resAll, bV_val, bV_own, tD_lst, tD_ins, vals, dL, dLV, dTup, dLst, oLst, sz, ofO, i0D, iD, truD, dFz, R.bind, dAsg, gTp, gsCons, gsNil, gNm, dPar, setAll, dAug, dSetIx, isOwn, dApp, dFor, iVals, iRes, iSeq, dSl, pNo, pSome, dNeg, fdivD, modD, powD, mulA, mulI, absD, intD, max2D, min2D, max3D, min3D, isND, notND, dRaise, dDict, okP, flp, sq_tIs, sq_fIs, sq_tT, sq_lT, sq_tB, sq_lB, isq_tIs, isq_fIs, isq_tT, isq_lT, isq_tB, isq_lB, len_tIs, len_fIs, len_tT, len_lT, len_tB, len_lB, en_tIs, en_fIs, en_tT, en_lT, en_tB, en_lB, tup_tIs, tup_fIs, tup_tT, tup_lT, tup_tB, tup_lB, lst_tIs, lst_fIs, lst_tT, lst_lT, lst_tB, lst_lB, Tg_0, Tg_1, f_tIs, f_fIs, f_tT, f_lT, f_tB, f_lB, List.getElem?_set, List.getElem?_cons_zero, List.getElem?_cons_succ, List.getElem?_nil, sq_tup, sq_lst, isq_tup, isq_lst, len_tup, len_lst, add_int, le_int, lt_int, ge_int, gt_int, vals_c1, vals_c0, vals_st1, vals_st0, any_bl, all_bl, ix_t0, ix_t1, ix_t2, -getElem?_pos, F_Misdone_shows, D_Misdone_shows, hj, dEqM, M_eq, Pr_eq, f_jeq1, eqd]
  | some p =>
    rw [hd] at hj
    simp [toldD] at hj
    have := f_meq p.1 i p.2 b
    generalize how b = x at *
    generalize how p.2 = y at *
    simp [cfOf, startE, fin_, outsOf, retag, findTag, dRet, dSeq, dEnd, dNever, dIte, dIf, dDrop, dFld, dSet, toB, dC, dName, dBl, dNot, dAnd, dOr, tAndD, tOrD, tNotD, dTru, dBoolC, boolD, dIsi, dIsi2, dIsC, tyN, isN, d2, d3, oV, oPl, aNil, aCons, aStar, argB, argsB, ownPl, nodupB, wb, wb1, dCall, dMeth, oMake, oMake0, dSetFld, res, resAll, bV_val, bV_own, tD_lst, tD_ins, vals, dL, dLV, dTup, dLst, oLst, sz, ofO, i0D, iD, truD, dFz, R.bind, dAsg, gTp, gsCons, gsNil, gNm, dPar, setAll, dAug, dSetIx, isOwn, dApp, dFor, iVals, iRes, iSeq, dSl, pNo, pSome, dNeg, fdivD, modD, powD, mulA, mulI, absD, intD, max2D, min2D, max3D, min3D, isND, notND, dRaise, dDict, okP, flp, sq_tIs, sq_fIs, sq_tT, sq_lT, sq_tB, sq_lB, isq_tIs, isq_fIs, isq_tT, isq_lT, isq_tB, isq_lB, len_tIs, len_fIs, len_tT, len_lT, len_tB, len_lB, en_tIs, en_fIs, en_tT, en_lT, en_tB, en_lB, tup_tIs, tup_fIs, tup_tT, tup_lT, tup_tB, tup_lB, lst_tIs, lst_fIs, lst_tT, lst_lT, lst_tB, lst_lB, Tg_0, Tg_1, f_tIs, f_fIs, f_tT, f_lT, f_tB, f_lB, List.getElem?_set, List.getElem?_cons_zero, List.getElem?_cons_succ, List.getElem?_nil, sq_tup, sq_lst, isq_tup, isq_lst, len_tup, len_lst, add_int, le_int, lt_int, ge_int, gt_int, vals_c1, vals_c0, vals_st1, vals_st0, any_bl, all_bl, ix_t0, ix_t1, ix_t2, -getElem?_pos, F_Misdone_shows, D_Misdone_shows, hj, dEqM, M_eq, Pr_eq, this, eqd]
end A
end
section
namespace A
open PySem Zd
set_option autoImplicit false
abbrev drw (S : List Int) (n : Int) : Option B := some (.own 0 (.lst [fIs S, .int 0, .int n]))
def nwo : Option (Option B) → Bool
  | some (some (.own _ _)) => false
  | _ => true
structure LS (S : List Int) (n : Int) (ρ : Zd.Env) : Prop where
  len : ρ.length = 20
  d1 : ρ[1]? = some (drw S n)
  hn : 0 ≤ n
  nv : ∀ i, i ≠ 1 → nwo ρ[i]? = true
theorem LS.set {S : List Int} {n : Int} {ρ : Zd.Env} (h : LS S n ρ) {i : Nat} {x : Option B} (hi : i ≠ 1) (hx : nw x = true) : LS S n (ρ.set i x) :=
  ⟨by simp [h.len], by rw [get_ne hi]; exact h.d1, h.hn, fun j hj => by
    by_cases e : i = j
    · subst e
      by_cases hl : i < ρ.length
      · rw [get_eq hl]
        cases x with
        | none => rfl
        | some b => cases b <;> first | rfl | cases hx
      · rw [List.getElem?_eq_none (by simp; omega)]; rfl
    · rw [get_ne e]; exact h.nv j hj⟩
theorem LS.draw {S : List Int} {n n' : Int} {ρ : Zd.Env} (h : LS S n ρ) (hn : 0 ≤ n') : LS S n' (ρ.set 1 (drw S n')) :=
  ⟨by simp [h.len], get_eq (by rw [h.len]; decide), hn, fun j hj => by rw [get_ne (Ne.symm hj)]; exact h.nv j hj⟩
theorem LS.no {S : List Int} {n : Int} {ρ : Zd.Env} (h : LS S n ρ) {vs : List Nat} (hv : 1 ∉ vs) : noOwn ρ vs = true := by
  unfold noOwn
  rw [List.all_eq_true]
  intro v hm
  have := h.nv v (fun e => hv (e ▸ hm))
  revert this
  cases ρ[v]? with
  | none => intro _; rfl
  | some x =>
    cases x with
    | none => intro _; rfl
    | some b =>
      cases b with
      | val d => intro _; rfl
      | own t o => intro h; cases h
theorem LS.nwj {S : List Int} {n : Int} {ρ : Zd.Env} (h : LS S n ρ) {v : Nat} (hv : v ≠ 1) : nw (ρ[v]?.join) = true := by
  have := h.nv v hv
  revert this
  cases ρ[v]? with
  | none => intro _; rfl
  | some x =>
    cases x with
    | none => intro _; rfl
    | some b =>
      cases b with
      | val d => intro _; rfl
      | own t o => intro h; cases h
theorem f_pick {S : List Int} {n : Int} {t : Nat} {L : List D} (hn : 0 ≤ n) (hL : L ≠ []) (hl : L.length ≤ 1000) : ∃ (i : Nat) (h : i < L.length), F__law_pick [.own t (.lst [fIs S, .int 0, .int n]), .val (.lst L)] = .ok [some (.lst [fIs S, .int 0, .int (n + 1)]), none] L[i] := by
  have h0 : 0 < L.length := List.length_pos_iff.mpr hL
  obtain ⟨r, r0, r1, hr⟩ := f_next (L := S) (t := 1) (b := L.length) hn (by omega)
  have hi : r.toNat < L.length := by omega
  refine ⟨r.toNat, hi, ?_⟩
  have e : ixD (.lst L) (.int r) = some L[r.toNat] := by
    show L2.atI L r = _
    simp [L2.atI, L2.ixN, r0, r1, hi]
  simp [cfOf, startE, fin_, outsOf, retag, findTag, dRet, dSeq, dEnd, dNever, dIte, dIf, dDrop, dFld, dSet, toB, dC, dName, dBl, dNot, dAnd, dOr, tAndD, tOrD, tNotD, dTru, dBoolC, boolD, dIsi, dIsi2, dIsC, tyN, isN, d2, d3, oV, oPl, aNil, aCons, aStar, argB, argsB, ownPl, nodupB, wb, wb1, dCall, dMeth, oMake, oMake0, dSetFld, res, resAll, bV_val, bV_own, tD_lst, tD_ins, vals, dL, dLV, dTup, dLst, oLst, sz, ofO, i0D, iD, truD, dFz, R.bind, dAsg, gTp, gsCons, gsNil, gNm, dPar, setAll, dAug, dSetIx, isOwn, dApp, dFor, iVals, iRes, iSeq, dSl, pNo, pSome, dNeg, fdivD, modD, powD, mulA, mulI, absD, intD, max2D, min2D, max3D, min3D, isND, notND, dRaise, dDict, okP, flp, sq_tIs, sq_fIs, sq_tT, sq_lT, sq_tB, sq_lB, isq_tIs, isq_fIs, isq_tT, isq_lT, isq_tB, isq_lB, len_tIs, len_fIs, len_tT, len_lT, len_tB, len_lB, en_tIs, en_fIs, en_tT, en_lT, en_tB, en_lB, tup_tIs, tup_fIs, tup_tT, tup_lT, tup_tB, tup_lB, lst_tIs, lst_fIs, lst_tT, lst_lT, lst_tB, lst_lB, Tg_0, Tg_1, f_tIs, f_fIs, f_tT, f_lT, f_tB, f_lB, List.getElem?_set, List.getElem?_cons_zero, List.getElem?_cons_succ, List.getElem?_nil, sq_tup, sq_lst, isq_tup, isq_lst, len_tup, len_lst, add_int, le_int, lt_int, ge_int, gt_int, vals_c1, vals_c0, vals_st1, vals_st0, any_bl, all_bl, ix_t0, ix_t1, ix_t2, -getElem?_pos, F__law_pick, D__law_pick, hr, e]
theorem st1 {S : List Int} {n : Int} {ρ : Zd.Env} (h : LS S n ρ) : ∃ (m : Me) (n' : Int), m.ok ∧ 0 ≤ n' ∧ S_law_1 ρ = .ok ((ρ.set 1 (drw S n')).set 3 (sv m.d), .nx) := by
  have hn := h.hn
  obtain ⟨r1, a0, a1, h1⟩ := f_next (L := S) (t := 0) (b := 13) hn (by omega)
  obtain ⟨r2, b0, b1, h2⟩ := f_next (L := S) (t := 0) (b := 4) (n := n + 1) (by omega) (by omega)
  have f1 := h.d1
  have hl := h.len
  have e1 : ∀ x : Int, 0 ≤ x → D.tup [.str "window", .int x] = (Me.win x.toNat).d := fun x hx => by
    show _ = D.tup [.str "window", .int ((x.toNat : Nat) : Int)]
    rw [show ((x.toNat : Nat) : Int) = x by omega]
  obtain ⟨i, hi, hp⟩ := f_pick (S := S) (n := n + 1 + 1) (t := 0) (L := [Me.all.d, Me.last.d, (Me.win r1.toNat).d, (Me.win r2.toNat).d]) (by omega) (by simp) (by simp)
  have hm : ∃ m : Me, m.ok ∧ [Me.all.d, Me.last.d, (Me.win r1.toNat).d, (Me.win r2.toNat).d][i] = m.d := by
    simp only [List.length_cons, List.length_nil] at hi
    match i, hi with
    | 0, _ => exact ⟨.all, trivial, rfl⟩
    | 1, _ => exact ⟨.last, trivial, rfl⟩
    | 2, _ => exact ⟨.win r1.toNat, by show _ ≤ 12; omega, rfl⟩
    | 3, _ => exact ⟨.win r2.toNat, by show _ ≤ 12; omega, rfl⟩
  obtain ⟨m, hm, em⟩ := hm
  rw [em] at hp
  refine ⟨m, n + 1 + 1 + 1, hm, by omega, ?_⟩
  have ea : D.tup [.str "all"] = Me.all.d := rfl
  have el : D.tup [.str "last"] = Me.last.d := rfl
  unfold S_law_1
  simp [cfOf, startE, fin_, outsOf, retag, findTag, dRet, dSeq, dEnd, dNever, dIte, dIf, dDrop, dFld, dSet, toB, dC, dName, dBl, dNot, dAnd, dOr, tAndD, tOrD, tNotD, dTru, dBoolC, boolD, dIsi, dIsi2, dIsC, tyN, isN, d2, d3, oV, oPl, aNil, aCons, aStar, argB, argsB, ownPl, nodupB, wb, wb1, dCall, dMeth, oMake, oMake0, dSetFld, res, resAll, bV_val, bV_own, tD_lst, tD_ins, vals, dL, dLV, dTup, dLst, oLst, sz, ofO, i0D, iD, truD, dFz, R.bind, dAsg, gTp, gsCons, gsNil, gNm, dPar, setAll, dAug, dSetIx, isOwn, dApp, dFor, iVals, iRes, iSeq, dSl, pNo, pSome, dNeg, fdivD, modD, powD, mulA, mulI, absD, intD, max2D, min2D, max3D, min3D, isND, notND, dRaise, dDict, okP, flp, sq_tIs, sq_fIs, sq_tT, sq_lT, sq_tB, sq_lB, isq_tIs, isq_fIs, isq_tT, isq_lT, isq_tB, isq_lB, len_tIs, len_fIs, len_tT, len_lT, len_tB, len_lB, en_tIs, en_fIs, en_tT, en_lT, en_tB, en_lB, tup_tIs, tup_fIs, tup_tT, tup_lT, tup_tB, tup_lB, lst_tIs, lst_fIs, lst_tT, lst_lT, lst_tB, lst_lB, Tg_0, Tg_1, f_tIs, f_fIs, f_tT, f_lT, f_tB, f_lB, List.getElem?_set, List.getElem?_cons_zero, List.getElem?_cons_succ, List.getElem?_nil, sq_tup, sq_lst, isq_tup, isq_lst, len_tup, len_lst, add_int, le_int, lt_int, ge_int, gt_int, vals_c1, vals_c0, vals_st1, vals_st0, any_bl, all_bl, ix_t0, ix_t1, ix_t2, -getElem?_pos, f1, hl, h1, h2, ea, el, e1 r1 a0, e1 r2 b0, hp]
def T3 (p : Pt) : Prop := 0 ≤ p.1 ∧ p.1 ≤ 2 ∧ 0 ≤ p.2 ∧ p.2 ≤ 2
theorem T3.ok {p : Pt} (h : T3 p) : TagOk p := ⟨h.1, by have := h.2.1; omega, h.2.2.1, by have := h.2.2.2; omega⟩
theorem st2 {S : List Int} {n : Int} {ρ : Zd.Env} {m : Me} (h : LS S n ρ) (h3 : ρ[3]? = some (sv m.d)) : ∃ (C : List Pt) (n' : Int) (ρ' : Zd.Env), C.length ≤ 11 ∧ (∀ p ∈ C, T3 p) ∧ LS S n' ρ' ∧ ρ'[3]? = some (sv m.d) ∧ ρ'[5]? = some (sv (tT C)) ∧ S_law_2 ρ = .ok (ρ', .nx) := by
  have hn := h.hn
  have hl := h.len
  obtain ⟨r, r0, r1, hr⟩ := f_next (L := S) (t := 0) (b := 12) hn (by omega)
  have hw := h.draw (n' := n + 1) (by omega)
  obtain ⟨μ, ys, e1, ⟨n', g1, g2⟩, e3, e4⟩ := lcGo_st (vs := [4]) (g := gNm 4) (t := tTrue) (c := dTup (aCons (oV (dCall F__law_next (aCons (oPl 1) (aCons (oV (dC (.int 3))) aNil)))) (aCons (oV (dCall F__law_next (aCons (oPl 1) (aCons (oV (dC (.int 3))) aNil)))) aNil)))
    (fun μ => ∃ n, LS S n μ ∧ μ[3]? = some (sv m.d)) (fun y => ∃ p : Pt, y = Tg p ∧ T3 p) (rngL 0 1 r.toNat) [] (wipeE (ρ.set 1 (drw S (n + 1))) [4]) (fun d hd μ hI => by
      obtain ⟨n, hμ, h3⟩ := hI
      have hn := hμ.hn
      obtain ⟨a, a0, a1, ha⟩ := f_next (L := S) (t := 0) (b := 3) hn (by omega)
      obtain ⟨b, b0, b1, hb⟩ := f_next (L := S) (t := 0) (b := 3) (n := n + 1) (by omega) (by omega)
      have hl := hμ.len
      have f1 := hμ.d1
      refine ⟨μ.set 4 (sv d), (μ.set 4 (sv d)).set 1 (drw S (n + 1 + 1)), Tg (a, b), rfl, rfl, ?_, ⟨n + 1 + 1, ?_, ?_⟩, (a, b), rfl, a0, by show a ≤ 2; omega, b0, by show b ≤ 2; omega⟩
      · simp [cfOf, startE, fin_, outsOf, retag, findTag, dRet, dSeq, dEnd, dNever, dIte, dIf, dDrop, dFld, dSet, toB, dC, dName, dBl, dNot, dAnd, dOr, tAndD, tOrD, tNotD, dTru, dBoolC, boolD, dIsi, dIsi2, dIsC, tyN, isN, d2, d3, oV, oPl, aNil, aCons, aStar, argB, argsB, ownPl, nodupB, wb, wb1, dCall, dMeth, oMake, oMake0, dSetFld, res, resAll, bV_val, bV_own, tD_lst, tD_ins, vals, dL, dLV, dTup, dLst, oLst, sz, ofO, i0D, iD, truD, dFz, R.bind, dAsg, gTp, gsCons, gsNil, gNm, dPar, setAll, dAug, dSetIx, isOwn, dApp, dFor, iVals, iRes, iSeq, dSl, pNo, pSome, dNeg, fdivD, modD, powD, mulA, mulI, absD, intD, max2D, min2D, max3D, min3D, isND, notND, dRaise, dDict, okP, flp, sq_tIs, sq_fIs, sq_tT, sq_lT, sq_tB, sq_lB, isq_tIs, isq_fIs, isq_tT, isq_lT, isq_tB, isq_lB, len_tIs, len_fIs, len_tT, len_lT, len_tB, len_lB, en_tIs, en_fIs, en_tT, en_lT, en_tB, en_lB, tup_tIs, tup_fIs, tup_tT, tup_lT, tup_tB, tup_lB, lst_tIs, lst_fIs, lst_tT, lst_lT, lst_tB, lst_lB, Tg_0, Tg_1, f_tIs, f_fIs, f_tT, f_lT, f_tB, f_lB, List.getElem?_set, List.getElem?_cons_zero, List.getElem?_cons_succ, List.getElem?_nil, sq_tup, sq_lst, isq_tup, isq_lst, len_tup, len_lst, add_int, le_int, lt_int, ge_int, gt_int, vals_c1, vals_c0, vals_st1, vals_st0, any_bl, all_bl, ix_t0, ix_t1, ix_t2, -getElem?_pos, f1, hl, ha, hb, mk_Tg]
      · exact ((hμ.set (by decide) rfl).draw (by omega)).set (by decide) rfl
      · simp [cfOf, startE, fin_, outsOf, retag, findTag, dRet, dSeq, dEnd, dNever, dIte, dIf, dDrop, dFld, dSet, toB, dC, dName, dBl, dNot, dAnd, dOr, tAndD, tOrD, tNotD, dTru, dBoolC, boolD, dIsi, dIsi2, dIsC, tyN, isN, d2, d3, oV, oPl, aNil, aCons, aStar, argB, argsB, ownPl, nodupB, wb, wb1, dCall, dMeth, oMake, oMake0, dSetFld, res, resAll, bV_val, bV_own, tD_lst, tD_ins, vals, dL, dLV, dTup, dLst, oLst, sz, ofO, i0D, iD, truD, dFz, R.bind, dAsg, gTp, gsCons, gsNil, gNm, dPar, setAll, dAug, dSetIx, isOwn, dApp, dFor, iVals, iRes, iSeq, dSl, pNo, pSome, dNeg, fdivD, modD, powD, mulA, mulI, absD, intD, max2D, min2D, max3D, min3D, isND, notND, dRaise, dDict, okP, flp, sq_tIs, sq_fIs, sq_tT, sq_lT, sq_tB, sq_lB, isq_tIs, isq_fIs, isq_tT, isq_lT, isq_tB, isq_lB, len_tIs, len_fIs, len_tT, len_lT, len_tB, len_lB, en_tIs, en_fIs, en_tT, en_lT, en_tB, en_lB, tup_tIs, tup_fIs, tup_tT, tup_lT, tup_tB, tup_lB, lst_tIs, lst_fIs, lst_tT, lst_lT, lst_tB, lst_lB, Tg_0, Tg_1, f_tIs, f_fIs, f_tT, f_lT, f_tB, f_lB, List.getElem?_set, List.getElem?_cons_zero, List.getElem?_cons_succ, List.getElem?_nil, sq_tup, sq_lst, isq_tup, isq_lst, len_tup, len_lst, add_int, le_int, lt_int, ge_int, gt_int, vals_c1, vals_c0, vals_st1, vals_st0, any_bl, all_bl, ix_t0, ix_t1, ix_t2, -getElem?_pos, wipeE, h3]) ⟨n + 1, hw.set (by decide) rfl, by simp [cfOf, startE, fin_, outsOf, retag, findTag, dRet, dSeq, dEnd, dNever, dIte, dIf, dDrop, dFld, dSet, toB, dC, dName, dBl, dNot, dAnd, dOr, tAndD, tOrD, tNotD, dTru, dBoolC, boolD, dIsi, dIsi2, dIsC, tyN, isN, d2, d3, oV, oPl, aNil, aCons, aStar, argB, argsB, ownPl, nodupB, wb, wb1, dCall, dMeth, oMake, oMake0, dSetFld, res, resAll, bV_val, bV_own, tD_lst, tD_ins, vals, dL, dLV, dTup, dLst, oLst, sz, ofO, i0D, iD, truD, dFz, R.bind, dAsg, gTp, gsCons, gsNil, gNm, dPar, setAll, dAug, dSetIx, isOwn, dApp, dFor, iVals, iRes, iSeq, dSl, pNo, pSome, dNeg, fdivD, modD, powD, mulA, mulI, absD, intD, max2D, min2D, max3D, min3D, isND, notND, dRaise, dDict, okP, flp, sq_tIs, sq_fIs, sq_tT, sq_lT, sq_tB, sq_lB, isq_tIs, isq_fIs, isq_tT, isq_lT, isq_tB, isq_lB, len_tIs, len_fIs, len_tT, len_lT, len_tB, len_lB, en_tIs, en_fIs, en_tT, en_lT, en_tB, en_lB, tup_tIs, tup_fIs, tup_tT, tup_lT, tup_tB, tup_lB, lst_tIs, lst_fIs, lst_tT, lst_lT, lst_tB, lst_lB, Tg_0, Tg_1, f_tIs, f_fIs, f_tT, f_lT, f_tB, f_lB, List.getElem?_set, List.getElem?_cons_zero, List.getElem?_cons_succ, List.getElem?_nil, sq_tup, sq_lst, isq_tup, isq_lst, len_tup, len_lst, add_int, le_int, lt_int, ge_int, gt_int, vals_c1, vals_c0, vals_st1, vals_st0, any_bl, all_bl, ix_t0, ix_t1, ix_t2, -getElem?_pos, wipeE, h3]⟩ (by simp [rngL]; omega)
  obtain ⟨C, hC, hT⟩ := map_of Tg T3 e4
  subst hC
  have hlen : C.length ≤ 11 := by
    have : (rngL 0 1 r.toNat).length = r.toNat := rngL_len
    rw [this, List.length_map] at e3
    omega
  have hback : nw ((ρ.set 1 (drw S (n + 1)))[4]?.join) = true := hw.nwj (by decide)
  have hμ2 := g1.set (i := 4) (x := (ρ.set 1 (drw S (n + 1)))[4]?.join) (by decide) hback
  refine ⟨C, n', (μ.set 4 ((ρ.set 1 (drw S (n + 1)))[4]?.join)).set 5 (sv (tT C)), hlen, hT, hμ2.set (by decide) rfl, by simp [cfOf, startE, fin_, outsOf, retag, findTag, dRet, dSeq, dEnd, dNever, dIte, dIf, dDrop, dFld, dSet, toB, dC, dName, dBl, dNot, dAnd, dOr, tAndD, tOrD, tNotD, dTru, dBoolC, boolD, dIsi, dIsi2, dIsC, tyN, isN, d2, d3, oV, oPl, aNil, aCons, aStar, argB, argsB, ownPl, nodupB, wb, wb1, dCall, dMeth, oMake, oMake0, dSetFld, res, resAll, bV_val, bV_own, tD_lst, tD_ins, vals, dL, dLV, dTup, dLst, oLst, sz, ofO, i0D, iD, truD, dFz, R.bind, dAsg, gTp, gsCons, gsNil, gNm, dPar, setAll, dAug, dSetIx, isOwn, dApp, dFor, iVals, iRes, iSeq, dSl, pNo, pSome, dNeg, fdivD, modD, powD, mulA, mulI, absD, intD, max2D, min2D, max3D, min3D, isND, notND, dRaise, dDict, okP, flp, sq_tIs, sq_fIs, sq_tT, sq_lT, sq_tB, sq_lB, isq_tIs, isq_fIs, isq_tT, isq_lT, isq_tB, isq_lB, len_tIs, len_fIs, len_tT, len_lT, len_tB, len_lB, en_tIs, en_fIs, en_tT, en_lT, en_tB, en_lB, tup_tIs, tup_fIs, tup_tT, tup_lT, tup_tB, tup_lB, lst_tIs, lst_fIs, lst_tT, lst_lT, lst_tB, lst_lB, Tg_0, Tg_1, f_tIs, f_fIs, f_tT, f_lT, f_tB, f_lB, List.getElem?_set, List.getElem?_cons_zero, List.getElem?_cons_succ, List.getElem?_nil, sq_tup, sq_lst, isq_tup, isq_lst, len_tup, len_lst, add_int, le_int, lt_int, ge_int, gt_int, vals_c1, vals_c0, vals_st1, vals_st0, any_bl, all_bl, ix_t0, ix_t1, ix_t2, -getElem?_pos, g2], by simp [cfOf, startE, fin_, outsOf, retag, findTag, dRet, dSeq, dEnd, dNever, dIte, dIf, dDrop, dFld, dSet, toB, dC, dName, dBl, dNot, dAnd, dOr, tAndD, tOrD, tNotD, dTru, dBoolC, boolD, dIsi, dIsi2, dIsC, tyN, isN, d2, d3, oV, oPl, aNil, aCons, aStar, argB, argsB, ownPl, nodupB, wb, wb1, dCall, dMeth, oMake, oMake0, dSetFld, res, resAll, bV_val, bV_own, tD_lst, tD_ins, vals, dL, dLV, dTup, dLst, oLst, sz, ofO, i0D, iD, truD, dFz, R.bind, dAsg, gTp, gsCons, gsNil, gNm, dPar, setAll, dAug, dSetIx, isOwn, dApp, dFor, iVals, iRes, iSeq, dSl, pNo, pSome, dNeg, fdivD, modD, powD, mulA, mulI, absD, intD, max2D, min2D, max3D, min3D, isND, notND, dRaise, dDict, okP, flp, sq_tIs, sq_fIs, sq_tT, sq_lT, sq_tB, sq_lB, isq_tIs, isq_fIs, isq_tT, isq_lT, isq_tB, isq_lB, len_tIs, len_fIs, len_tT, len_lT, len_tB, len_lB, en_tIs, en_fIs, en_tT, en_lT, en_tB, en_lB, tup_tIs, tup_fIs, tup_tT, tup_lT, tup_tB, tup_lB, lst_tIs, lst_fIs, lst_tT, lst_lT, lst_tB, lst_lB, Tg_0, Tg_1, f_tIs, f_fIs, f_tT, f_lT, f_tB, f_lB, List.getElem?_set, List.getElem?_cons_zero, List.getElem?_cons_succ, List.getElem?_nil, sq_tup, sq_lst, isq_tup, isq_lst, len_tup, len_lst, add_int, le_int, lt_int, ge_int, gt_int, vals_c1, vals_c0, vals_st1, vals_st0, any_bl, all_bl, ix_t0, ix_t1, ix_t2, -getElem?_pos, g1.len], ?_⟩
  have f1 := h.d1
  have hnr : near r = true := near_ok (by omega) (by omega)
  have hno := hw.no (vs := [4]) (by decide)
  have elc : oLc (iRes rng1 (aCons (oV (dCall F__law_next (aCons (oPl 1) (aCons (oV (dC (.int 12))) aNil)))) aNil)) [4] (gNm 4) tTrue (dTup (aCons (oV (dCall F__law_next (aCons (oPl 1) (aCons (oV (dC (.int 3))) aNil)))) (aCons (oV (dCall F__law_next (aCons (oPl 1) (aCons (oV (dC (.int 3))) aNil)))) aNil))) ρ = .ok (μ.set 4 ((ρ.set 1 (drw S (n + 1)))[4]?.join), .fr (.lst (C.map Tg))) := by
    have ei : iRes rng1 (aCons (oV (dCall F__law_next (aCons (oPl 1) (aCons (oV (dC (.int 12))) aNil)))) aNil) ρ = .ok (ρ.set 1 (drw S (n + 1)), rngL 0 1 r.toNat) := by
      simp [cfOf, startE, fin_, outsOf, retag, findTag, dRet, dSeq, dEnd, dNever, dIte, dIf, dDrop, dFld, dSet, toB, dC, dName, dBl, dNot, dAnd, dOr, tAndD, tOrD, tNotD, dTru, dBoolC, boolD, dIsi, dIsi2, dIsC, tyN, isN, d2, d3, oV, oPl, aNil, aCons, aStar, argB, argsB, ownPl, nodupB, wb, wb1, dCall, dMeth, oMake, oMake0, dSetFld, res, resAll, bV_val, bV_own, tD_lst, tD_ins, vals, dL, dLV, dTup, dLst, oLst, sz, ofO, i0D, iD, truD, dFz, R.bind, dAsg, gTp, gsCons, gsNil, gNm, dPar, setAll, dAug, dSetIx, isOwn, dApp, dFor, iVals, iRes, iSeq, dSl, pNo, pSome, dNeg, fdivD, modD, powD, mulA, mulI, absD, intD, max2D, min2D, max3D, min3D, isND, notND, dRaise, dDict, okP, flp, sq_tIs, sq_fIs, sq_tT, sq_lT, sq_tB, sq_lB, isq_tIs, isq_fIs, isq_tT, isq_lT, isq_tB, isq_lB, len_tIs, len_fIs, len_tT, len_lT, len_tB, len_lB, en_tIs, en_fIs, en_tT, en_lT, en_tB, en_lB, tup_tIs, tup_fIs, tup_tT, tup_lT, tup_tB, tup_lB, lst_tIs, lst_fIs, lst_tT, lst_lT, lst_tB, lst_lB, Tg_0, Tg_1, f_tIs, f_fIs, f_tT, f_lT, f_tB, f_lB, List.getElem?_set, List.getElem?_cons_zero, List.getElem?_cons_succ, List.getElem?_nil, sq_tup, sq_lst, isq_tup, isq_lst, len_tup, len_lst, add_int, le_int, lt_int, ge_int, gt_int, vals_c1, vals_c0, vals_st1, vals_st0, any_bl, all_bl, ix_t0, ix_t1, ix_t2, -getElem?_pos, f1, hl, hr, rng1, hnr]
    unfold oLc
    rw [ei]
    show (if noOwn _ [4] = true then _ else _) = _
    rw [if_pos hno, e1]
    rfl
  have et : tupleD [.lst (C.map Tg)] = some (tT C) := rfl
  unfold S_law_2
  generalize oLc _ _ _ _ _ = LC at *
  generalize C.map Tg = CM at *
  simp [cfOf, startE, fin_, outsOf, retag, findTag, dRet, dSeq, dEnd, dNever, dIte, dIf, dDrop, dFld, dSet, toB, dC, dName, dBl, dNot, dAnd, dOr, tAndD, tOrD, tNotD, dTru, dBoolC, boolD, dIsi, dIsi2, dIsC, tyN, isN, d2, d3, oV, oPl, aNil, aCons, aStar, argB, argsB, ownPl, nodupB, wb, wb1, dCall, dMeth, oMake, oMake0, dSetFld, res, resAll, bV_val, bV_own, tD_lst, tD_ins, vals, dL, dLV, dTup, dLst, oLst, sz, ofO, i0D, iD, truD, dFz, R.bind, dAsg, gTp, gsCons, gsNil, gNm, dPar, setAll, dAug, dSetIx, isOwn, dApp, dFor, iVals, iRes, iSeq, dSl, pNo, pSome, dNeg, fdivD, modD, powD, mulA, mulI, absD, intD, max2D, min2D, max3D, min3D, isND, notND, dRaise, dDict, okP, flp, sq_tIs, sq_fIs, sq_tT, sq_lT, sq_tB, sq_lB, isq_tIs, isq_fIs, isq_tT, isq_lT, isq_tB, isq_lB, len_tIs, len_fIs, len_tT, len_lT, len_tB, len_lB, en_tIs, en_fIs, en_tT, en_lT, en_tB, en_lB, tup_tIs, tup_fIs, tup_tT, tup_lT, tup_tB, tup_lB, lst_tIs, lst_fIs, lst_tT, lst_lT, lst_tB, lst_lB, Tg_0, Tg_1, f_tIs, f_fIs, f_tT, f_lT, f_tB, f_lB, List.getElem?_set, List.getElem?_cons_zero, List.getElem?_cons_succ, List.getElem?_nil, sq_tup, sq_lst, isq_tup, isq_lst, len_tup, len_lst, add_int, le_int, lt_int, ge_int, gt_int, vals_c1, vals_c0, vals_st1, vals_st0, any_bl, all_bl, ix_t0, ix_t1, ix_t2, -getElem?_pos, elc, et]
end A
end
section
namespace A
open PySem Zd
set_option autoImplicit false
theorem st3 {ρ : Zd.Env} {m : Me} {C : List Pt} (hm : m.ok) (hC : C.length ≤ 24) (h : ∀ p ∈ C, TagOk p) (hl : ρ.length = 20) (h3 : ρ[3]? = some (sv m.d)) (h5 : ρ[5]? = some (sv (tT C))) :
    S_law_3 ρ = .ok ((ρ.set 6 (sv (dueD (due m C)))).set 7 (sv (toldD (due m C))), .nx) := by
  have e1 := f_law_judged (m := m) hC
  have e2 := f_judge hm hC h
  unfold S_law_3
  simp [cfOf, startE, fin_, outsOf, retag, findTag, dRet, dSeq, dEnd, dNever, dIte, dIf, dDrop, dFld, dSet, toB, dC, dName, dBl, dNot, dAnd, dOr, tAndD, tOrD, tNotD, dTru, dBoolC, boolD, dIsi, dIsi2, dIsC, tyN, isN, d2, d3, oV, oPl, aNil, aCons, aStar, argB, argsB, ownPl, nodupB, wb, wb1, dCall, dMeth, oMake, oMake0, dSetFld, res, resAll, bV_val, bV_own, tD_lst, tD_ins, vals, dL, dLV, dTup, dLst, oLst, sz, ofO, i0D, iD, truD, dFz, R.bind, dAsg, gTp, gsCons, gsNil, gNm, dPar, setAll, dAug, dSetIx, isOwn, dApp, dFor, iVals, iRes, iSeq, dSl, pNo, pSome, dNeg, fdivD, modD, powD, mulA, mulI, absD, intD, max2D, min2D, max3D, min3D, isND, notND, dRaise, dDict, okP, flp, sq_tIs, sq_fIs, sq_tT, sq_lT, sq_tB, sq_lB, isq_tIs, isq_fIs, isq_tT, isq_lT, isq_tB, isq_lB, len_tIs, len_fIs, len_tT, len_lT, len_tB, len_lB, en_tIs, en_fIs, en_tT, en_lT, en_tB, en_lB, tup_tIs, tup_fIs, tup_tT, tup_lT, tup_tB, tup_lB, lst_tIs, lst_fIs, lst_tT, lst_lT, lst_tB, lst_lB, Tg_0, Tg_1, f_tIs, f_fIs, f_tT, f_lT, f_tB, f_lB, List.getElem?_set, List.getElem?_cons_zero, List.getElem?_cons_succ, List.getElem?_nil, sq_tup, sq_lst, isq_tup, isq_lst, len_tup, len_lst, add_int, le_int, lt_int, ge_int, gt_int, vals_c1, vals_c0, vals_st1, vals_st0, any_bl, all_bl, ix_t0, ix_t1, ix_t2, -getElem?_pos, h3, h5, hl, e1, e2]
theorem eqd_self (p : Nat × Bool) : eqd (some p) p.1 p.2 = true := by simp [eqd]
theorem st4 {ρ : Zd.Env} {m : Me} {C : List Pt} (hm : m.ok) (hC : C.length ≤ 24) (h : ∀ p ∈ C, TagOk p) (hl : ρ.length = 20) (h3 : ρ[3]? = some (sv m.d)) (h5 : ρ[5]? = some (sv (tT C)))
    (h6 : ρ[6]? = some (sv (dueD (due m C)))) (h7 : ρ[7]? = some (sv (toldD (due m C)))) : S_law_4 ρ = .ok (ρ, .nx) := by
  have e1 := f_is_memory hm
  have e2 := f_done_by hm hC h
  have e3 := f_law_done (m := m) hC
  have e4 := f_jshow hm hC h
  have e5 := f_mshow hm hC h
  have e6 := ne_tB (run m [] C) (run m [] C)
  unfold S_law_4
  cases hd : due m C with
  | none =>
    rw [hd] at h6 h7 e4 e5
    simp only [dueD, toldD] at h6 h7
    simp [cfOf, startE, fin_, outsOf, retag, findTag, dRet, dSeq, dEnd, dNever, dIte, dIf, dDrop, dFld, dSet, toB, dC, dName, dBl, dNot, dAnd, dOr, tAndD, tOrD, tNotD, dTru, dBoolC, boolD, dIsi, dIsi2, dIsC, tyN, isN, d2, d3, oV, oPl, aNil, aCons, aStar, argB, argsB, ownPl, nodupB, wb, wb1, dCall, dMeth, oMake, oMake0, dSetFld, res, resAll, bV_val, bV_own, tD_lst, tD_ins, vals, dL, dLV, dTup, dLst, oLst, sz, ofO, i0D, iD, truD, dFz, R.bind, dAsg, gTp, gsCons, gsNil, gNm, dPar, setAll, dAug, dSetIx, isOwn, dApp, dFor, iVals, iRes, iSeq, dSl, pNo, pSome, dNeg, fdivD, modD, powD, mulA, mulI, absD, intD, max2D, min2D, max3D, min3D, isND, notND, dRaise, dDict, okP, flp, sq_tIs, sq_fIs, sq_tT, sq_lT, sq_tB, sq_lB, isq_tIs, isq_fIs, isq_tT, isq_lT, isq_tB, isq_lB, len_tIs, len_fIs, len_tT, len_lT, len_tB, len_lB, en_tIs, en_fIs, en_tT, en_lT, en_tB, en_lB, tup_tIs, tup_fIs, tup_tT, tup_lT, tup_tB, tup_lB, lst_tIs, lst_fIs, lst_tT, lst_lT, lst_tB, lst_lB, Tg_0, Tg_1, f_tIs, f_fIs, f_tT, f_lT, f_tB, f_lB, List.getElem?_set, List.getElem?_cons_zero, List.getElem?_cons_succ, List.getElem?_nil, sq_tup, sq_lst, isq_tup, isq_lst, len_tup, len_lst, add_int, le_int, lt_int, ge_int, gt_int, vals_c1, vals_c0, vals_st1, vals_st0, any_bl, all_bl, ix_t0, ix_t1, ix_t2, -getElem?_pos, h3, h5, h6, h7, hl, e1, e2, e3, e4, e6, M_bool, f_jb, dEqM, M_eq, Pr_eq, f_jeq0, M_shows, ne_bl]
  | some p =>
    rw [hd] at h6 h7 e4 e5
    simp only [dueD, toldD] at h6 h7
    have e7 := f_mis p.1 p.2
    have e8 := f_meq p.1 p.1 p.2 p.2
    have e9 := e5 p.1 p.2
    rw [eqd_self] at e9
    generalize how p.2 = x at *
    simp [cfOf, startE, fin_, outsOf, retag, findTag, dRet, dSeq, dEnd, dNever, dIte, dIf, dDrop, dFld, dSet, toB, dC, dName, dBl, dNot, dAnd, dOr, tAndD, tOrD, tNotD, dTru, dBoolC, boolD, dIsi, dIsi2, dIsC, tyN, isN, d2, d3, oV, oPl, aNil, aCons, aStar, argB, argsB, ownPl, nodupB, wb, wb1, dCall, dMeth, oMake, oMake0, dSetFld, res, resAll, bV_val, bV_own, tD_lst, tD_ins, vals, dL, dLV, dTup, dLst, oLst, sz, ofO, i0D, iD, truD, dFz, R.bind, dAsg, gTp, gsCons, gsNil, gNm, dPar, setAll, dAug, dSetIx, isOwn, dApp, dFor, iVals, iRes, iSeq, dSl, pNo, pSome, dNeg, fdivD, modD, powD, mulA, mulI, absD, intD, max2D, min2D, max3D, min3D, isND, notND, dRaise, dDict, okP, flp, sq_tIs, sq_fIs, sq_tT, sq_lT, sq_tB, sq_lB, isq_tIs, isq_fIs, isq_tT, isq_lT, isq_tB, isq_lB, len_tIs, len_fIs, len_tT, len_lT, len_tB, len_lB, en_tIs, en_fIs, en_tT, en_lT, en_tB, en_lB, tup_tIs, tup_fIs, tup_tT, tup_lT, tup_tB, tup_lB, lst_tIs, lst_fIs, lst_tT, lst_lT, lst_tB, lst_lB, Tg_0, Tg_1, f_tIs, f_fIs, f_tT, f_lT, f_tB, f_lB, List.getElem?_set, List.getElem?_cons_zero, List.getElem?_cons_succ, List.getElem?_nil, sq_tup, sq_lst, isq_tup, isq_lst, len_tup, len_lst, add_int, le_int, lt_int, ge_int, gt_int, vals_c1, vals_c0, vals_st1, vals_st0, any_bl, all_bl, ix_t0, ix_t1, ix_t2, -getElem?_pos, h3, h5, h6, h7, hl, e1, e2, e3, e9, e6, M_bool, f_mb, dEqM, M_eq, Pr_eq, M_shows, ne_bl, e7, e8, L2.atI, L2.ixN]
theorem st5 {ρ : Zd.Env} {m : Me} {C : List Pt} (hm : m.ok) (hC : C.length ≤ 24) (h : ∀ p ∈ C, TagOk p) (hl : ρ.length = 20) (h3 : ρ[3]? = some (sv m.d)) (h5 : ρ[5]? = some (sv (tT C)))
    (h6 : ρ[6]? = some (sv (dueD (due m C)))) (h7 : ρ[7]? = some (sv (toldD (due m C)))) : S_law_5 ρ = .ok (ρ, .nx) := by
  have e4 := f_jshow hm hC h
  have e5 := f_mshow hm hC h
  unfold S_law_5
  cases hd : due m C with
  | none =>
    rw [hd] at h6 h7 e4 e5
    simp only [dueD, toldD] at h6 h7
    have e7 := f_mis 0 true
    have e9 := e5 0 true
    simp [how] at e7 e9
    simp [cfOf, startE, fin_, outsOf, retag, findTag, dRet, dSeq, dEnd, dNever, dIte, dIf, dDrop, dFld, dSet, toB, dC, dName, dBl, dNot, dAnd, dOr, tAndD, tOrD, tNotD, dTru, dBoolC, boolD, dIsi, dIsi2, dIsC, tyN, isN, d2, d3, oV, oPl, aNil, aCons, aStar, argB, argsB, ownPl, nodupB, wb, wb1, dCall, dMeth, oMake, oMake0, dSetFld, res, resAll, bV_val, bV_own, tD_lst, tD_ins, vals, dL, dLV, dTup, dLst, oLst, sz, ofO, i0D, iD, truD, dFz, R.bind, dAsg, gTp, gsCons, gsNil, gNm, dPar, setAll, dAug, dSetIx, isOwn, dApp, dFor, iVals, iRes, iSeq, dSl, pNo, pSome, dNeg, fdivD, modD, powD, mulA, mulI, absD, intD, max2D, min2D, max3D, min3D, isND, notND, dRaise, dDict, okP, flp, sq_tIs, sq_fIs, sq_tT, sq_lT, sq_tB, sq_lB, isq_tIs, isq_fIs, isq_tT, isq_lT, isq_tB, isq_lB, len_tIs, len_fIs, len_tT, len_lT, len_tB, len_lB, en_tIs, en_fIs, en_tT, en_lT, en_tB, en_lB, tup_tIs, tup_fIs, tup_tT, tup_lT, tup_tB, tup_lB, lst_tIs, lst_fIs, lst_tT, lst_lT, lst_tB, lst_lB, Tg_0, Tg_1, f_tIs, f_fIs, f_tT, f_lT, f_tB, f_lB, List.getElem?_set, List.getElem?_cons_zero, List.getElem?_cons_succ, List.getElem?_nil, sq_tup, sq_lst, isq_tup, isq_lst, len_tup, len_lst, add_int, le_int, lt_int, ge_int, gt_int, vals_c1, vals_c0, vals_st1, vals_st0, any_bl, all_bl, ix_t0, ix_t1, ix_t2, -getElem?_pos, h3, h5, h6, h7, hl, e4, e7, e9, M_bool, M_shows, ne_bl, eqd]
  | some p =>
    rw [hd] at h6 h7 e4 e5
    simp only [dueD, toldD] at h6 h7
    obtain ⟨k, b⟩ := p
    have e7 := f_mis (k + 1) b
    have e8 := e5 (k + 1) b
    have e9 := f_mis k (!b)
    have e10 := e5 k (!b)
    have z1 : eqd (some (k, b)) (k + 1) b = false := by simp [eqd]; omega
    have z2 : eqd (some (k, b)) k (!b) = false := by cases b <;> simp [eqd]
    have z3 : eqD (how b) (.str "dropped") = some (.bl (!b)) := by cases b <;> kernel_rfl
    rw [z1] at e8
    rw [z2] at e10
    clear e5
    cases b with
    | true =>
      simp [how] at e7 e8 e9 e10 z3 h6
      simp [cfOf, startE, fin_, outsOf, retag, findTag, dRet, dSeq, dEnd, dNever, dIte, dIf, dDrop, dFld, dSet, toB, dC, dName, dBl, dNot, dAnd, dOr, tAndD, tOrD, tNotD, dTru, dBoolC, boolD, dIsi, dIsi2, dIsC, tyN, isN, d2, d3, oV, oPl, aNil, aCons, aStar, argB, argsB, ownPl, nodupB, wb, wb1, dCall, dMeth, oMake, oMake0, dSetFld, res, resAll, bV_val, bV_own, tD_lst, tD_ins, vals, dL, dLV, dTup, dLst, oLst, sz, ofO, i0D, iD, truD, dFz, R.bind, dAsg, gTp, gsCons, gsNil, gNm, dPar, setAll, dAug, dSetIx, isOwn, dApp, dFor, iVals, iRes, iSeq, dSl, pNo, pSome, dNeg, fdivD, modD, powD, mulA, mulI, absD, intD, max2D, min2D, max3D, min3D, isND, notND, dRaise, dDict, okP, flp, sq_tIs, sq_fIs, sq_tT, sq_lT, sq_tB, sq_lB, isq_tIs, isq_fIs, isq_tT, isq_lT, isq_tB, isq_lB, len_tIs, len_fIs, len_tT, len_lT, len_tB, len_lB, en_tIs, en_fIs, en_tT, en_lT, en_tB, en_lB, tup_tIs, tup_fIs, tup_tT, tup_lT, tup_tB, tup_lB, lst_tIs, lst_fIs, lst_tT, lst_lT, lst_tB, lst_lB, Tg_0, Tg_1, f_tIs, f_fIs, f_tT, f_lT, f_tB, f_lB, List.getElem?_set, List.getElem?_cons_zero, List.getElem?_cons_succ, List.getElem?_nil, sq_tup, sq_lst, isq_tup, isq_lst, len_tup, len_lst, add_int, le_int, lt_int, ge_int, gt_int, vals_c1, vals_c0, vals_st1, vals_st0, any_bl, all_bl, ix_t0, ix_t1, ix_t2, -getElem?_pos, h3, h5, h6, h7, hl, e4, e7, e8, e9, e10, z3, M_bool, M_shows, ne_bl, L2.atI, L2.ixN]
    | false =>
      simp [how] at e7 e8 e9 e10 z3 h6
      simp [cfOf, startE, fin_, outsOf, retag, findTag, dRet, dSeq, dEnd, dNever, dIte, dIf, dDrop, dFld, dSet, toB, dC, dName, dBl, dNot, dAnd, dOr, tAndD, tOrD, tNotD, dTru, dBoolC, boolD, dIsi, dIsi2, dIsC, tyN, isN, d2, d3, oV, oPl, aNil, aCons, aStar, argB, argsB, ownPl, nodupB, wb, wb1, dCall, dMeth, oMake, oMake0, dSetFld, res, resAll, bV_val, bV_own, tD_lst, tD_ins, vals, dL, dLV, dTup, dLst, oLst, sz, ofO, i0D, iD, truD, dFz, R.bind, dAsg, gTp, gsCons, gsNil, gNm, dPar, setAll, dAug, dSetIx, isOwn, dApp, dFor, iVals, iRes, iSeq, dSl, pNo, pSome, dNeg, fdivD, modD, powD, mulA, mulI, absD, intD, max2D, min2D, max3D, min3D, isND, notND, dRaise, dDict, okP, flp, sq_tIs, sq_fIs, sq_tT, sq_lT, sq_tB, sq_lB, isq_tIs, isq_fIs, isq_tT, isq_lT, isq_tB, isq_lB, len_tIs, len_fIs, len_tT, len_lT, len_tB, len_lB, en_tIs, en_fIs, en_tT, en_lT, en_tB, en_lB, tup_tIs, tup_fIs, tup_tT, tup_lT, tup_tB, tup_lB, lst_tIs, lst_fIs, lst_tT, lst_lT, lst_tB, lst_lB, Tg_0, Tg_1, f_tIs, f_fIs, f_tT, f_lT, f_tB, f_lB, List.getElem?_set, List.getElem?_cons_zero, List.getElem?_cons_succ, List.getElem?_nil, sq_tup, sq_lst, isq_tup, isq_lst, len_tup, len_lst, add_int, le_int, lt_int, ge_int, gt_int, vals_c1, vals_c0, vals_st1, vals_st0, any_bl, all_bl, ix_t0, ix_t1, ix_t2, -getElem?_pos, h3, h5, h6, h7, hl, e4, e7, e8, e9, e10, z3, M_bool, M_shows, ne_bl, L2.atI, L2.ixN]
def dblL (C : List Pt) : List Int := ((enL 0 C).filter fun p => decide (p.2 ∈ C.take p.1)).map fun p => (p.1 : Int)
theorem enL_in {C : List Pt} {p : Nat × Pt} (h : p ∈ enL 0 C) : p.1 < C.length := by
  obtain ⟨i, h1, h2⟩ := enL_mem h
  have := (List.getElem?_eq_some_iff.mp h2).1
  omega
theorem f_doubles {C : List Pt} (hC : C.length ≤ 24) (h : ∀ p ∈ C, TagOk p) : F_doubles_in [.val (tT C)] = .ok [none] (tIs (dblL C)) := by
  have e0 := f_check_comes hC h
  have e6 : listD [tT C] = some (lT C) := rfl
  have q := lc_2 (v := 1) (w := 2) (ρ0 := [sv (tT C), none, none]) (ρ := [sv (tT C), none, none]) (di := iVals enum1 (aCons (oV (dName 0)) aNil)) (t := dBl (d2 (inD false) (oPl 2) (oV (dSl (oV (dL listD (aCons (oPl 0) aNil))) pNo (pSome (dName 1)))))) (c := dName 1) (L := enL 0 C) (fun p => .int p.1) (fun p => Tg p.2) (fun p => decide (p.2 ∈ C.take p.1)) (fun p => .int p.1)
    (by simp) (by simp) (by decide) rfl (by simp [cfOf, startE, fin_, outsOf, retag, findTag, dRet, dSeq, dEnd, dNever, dIte, dIf, dDrop, dFld, dSet, toB, dC, dName, dBl, dNot, dAnd, dOr, tAndD, tOrD, tNotD, dTru, dBoolC, boolD, dIsi, dIsi2, dIsC, tyN, isN, d2, d3, oV, oPl, aNil, aCons, aStar, argB, argsB, ownPl, nodupB, wb, wb1, dCall, dMeth, oMake, oMake0, dSetFld, res, resAll, bV_val, bV_own, tD_lst, tD_ins, vals, dL, dLV, dTup, dLst, oLst, sz, ofO, i0D, iD, truD, dFz, R.bind, dAsg, gTp, gsCons, gsNil, gNm, dPar, setAll, dAug, dSetIx, isOwn, dApp, dFor, iVals, iRes, iSeq, dSl, pNo, pSome, dNeg, fdivD, modD, powD, mulA, mulI, absD, intD, max2D, min2D, max3D, min3D, isND, notND, dRaise, dDict, okP, flp, sq_tIs, sq_fIs, sq_tT, sq_lT, sq_tB, sq_lB, isq_tIs, isq_fIs, isq_tT, isq_lT, isq_tB, isq_lB, len_tIs, len_fIs, len_tT, len_lT, len_tB, len_lB, en_tIs, en_fIs, en_tT, en_lT, en_tB, en_lB, tup_tIs, tup_fIs, tup_tT, tup_lT, tup_tB, tup_lB, lst_tIs, lst_fIs, lst_tT, lst_lT, lst_tB, lst_lB, Tg_0, Tg_1, f_tIs, f_fIs, f_tT, f_lT, f_tB, f_lB, List.getElem?_set, List.getElem?_cons_zero, List.getElem?_cons_succ, List.getElem?_nil, sq_tup, sq_lst, isq_tup, isq_lst, len_tup, len_lst, add_int, le_int, lt_int, ge_int, gt_int, vals_c1, vals_c0, vals_st1, vals_st0, any_bl, all_bl, ix_t0, ix_t1, ix_t2, -getElem?_pos])
    (fun p hp => by
      have e2 := pre_lT (C := C) (k := p.1) (by have := enL_in hp; omega)
      have e3 := in_lT false p.2 (C.take p.1)
      generalize lT C = LC at *
      simp [cfOf, startE, fin_, outsOf, retag, findTag, dRet, dSeq, dEnd, dNever, dIte, dIf, dDrop, dFld, dSet, toB, dC, dName, dBl, dNot, dAnd, dOr, tAndD, tOrD, tNotD, dTru, dBoolC, boolD, dIsi, dIsi2, dIsC, tyN, isN, d2, d3, oV, oPl, aNil, aCons, aStar, argB, argsB, ownPl, nodupB, wb, wb1, dCall, dMeth, oMake, oMake0, dSetFld, res, resAll, bV_val, bV_own, tD_lst, tD_ins, vals, dL, dLV, dTup, dLst, oLst, sz, ofO, i0D, iD, truD, dFz, R.bind, dAsg, gTp, gsCons, gsNil, gNm, dPar, setAll, dAug, dSetIx, isOwn, dApp, dFor, iVals, iRes, iSeq, dSl, pNo, pSome, dNeg, fdivD, modD, powD, mulA, mulI, absD, intD, max2D, min2D, max3D, min3D, isND, notND, dRaise, dDict, okP, flp, sq_tIs, sq_fIs, sq_tT, sq_lT, sq_tB, sq_lB, isq_tIs, isq_fIs, isq_tT, isq_lT, isq_tB, isq_lB, len_tIs, len_fIs, len_tT, len_lT, len_tB, len_lB, en_tIs, en_fIs, en_tT, en_lT, en_tB, en_lB, tup_tIs, tup_fIs, tup_tT, tup_lT, tup_tB, tup_lB, lst_tIs, lst_fIs, lst_tT, lst_lT, lst_tB, lst_lB, Tg_0, Tg_1, f_tIs, f_fIs, f_tT, f_lT, f_tB, f_lB, List.getElem?_set, List.getElem?_cons_zero, List.getElem?_cons_succ, List.getElem?_nil, sq_tup, sq_lst, isq_tup, isq_lst, len_tup, len_lst, add_int, le_int, lt_int, ge_int, gt_int, vals_c1, vals_c0, vals_st1, vals_st0, any_bl, all_bl, ix_t0, ix_t1, ix_t2, -getElem?_pos, e6, e2, e3])
    (fun p hp _ => by simp [cfOf, startE, fin_, outsOf, retag, findTag, dRet, dSeq, dEnd, dNever, dIte, dIf, dDrop, dFld, dSet, toB, dC, dName, dBl, dNot, dAnd, dOr, tAndD, tOrD, tNotD, dTru, dBoolC, boolD, dIsi, dIsi2, dIsC, tyN, isN, d2, d3, oV, oPl, aNil, aCons, aStar, argB, argsB, ownPl, nodupB, wb, wb1, dCall, dMeth, oMake, oMake0, dSetFld, res, resAll, bV_val, bV_own, tD_lst, tD_ins, vals, dL, dLV, dTup, dLst, oLst, sz, ofO, i0D, iD, truD, dFz, R.bind, dAsg, gTp, gsCons, gsNil, gNm, dPar, setAll, dAug, dSetIx, isOwn, dApp, dFor, iVals, iRes, iSeq, dSl, pNo, pSome, dNeg, fdivD, modD, powD, mulA, mulI, absD, intD, max2D, min2D, max3D, min3D, isND, notND, dRaise, dDict, okP, flp, sq_tIs, sq_fIs, sq_tT, sq_lT, sq_tB, sq_lB, isq_tIs, isq_fIs, isq_tT, isq_lT, isq_tB, isq_lB, len_tIs, len_fIs, len_tT, len_lT, len_tB, len_lB, en_tIs, en_fIs, en_tT, en_lT, en_tB, en_lB, tup_tIs, tup_fIs, tup_tT, tup_lT, tup_tB, tup_lB, lst_tIs, lst_fIs, lst_tT, lst_lT, lst_tB, lst_lB, Tg_0, Tg_1, f_tIs, f_fIs, f_tT, f_lT, f_tB, f_lB, List.getElem?_set, List.getElem?_cons_zero, List.getElem?_cons_succ, List.getElem?_nil, sq_tup, sq_lst, isq_tup, isq_lst, len_tup, len_lst, add_int, le_int, lt_int, ge_int, gt_int, vals_c1, vals_c0, vals_st1, vals_st0, any_bl, all_bl, ix_t0, ix_t1, ix_t2, -getElem?_pos]) (by rw [enL_len]; omega)
  have et : tupleD [.lst (((enL 0 C).filter fun p => decide (p.2 ∈ C.take p.1)).map fun p => .int p.1)] = some (tIs (dblL C)) := by
    simp [tupleD, isSq, tIs, dblL, Function.comp_def]
  generalize ((enL 0 C).filter fun p => decide (p.2 ∈ C.take p.1)).map (fun p => D.int p.1) = M at *
  unfold F_doubles_in D_doubles_in
  generalize oLc _ _ _ _ _ = LC at *
  simp [cfOf, startE, fin_, outsOf, retag, findTag, dRet, dSeq, dEnd, dNever, dIte, dIf, dDrop, dFld, dSet, toB, dC, dName, dBl, dNot, dAnd, dOr, tAndD, tOrD, tNotD, dTru, dBoolC, boolD, dIsi, dIsi2, dIsC, tyN, isN, d2, d3, oV, oPl, aNil, aCons, aStar, argB, argsB, ownPl, nodupB, wb, wb1, dCall, dMeth, oMake, oMake0, dSetFld, res, resAll, bV_val, bV_own, tD_lst, tD_ins, vals, dL, dLV, dTup, dLst, oLst, sz, ofO, i0D, iD, truD, dFz, R.bind, dAsg, gTp, gsCons, gsNil, gNm, dPar, setAll, dAug, dSetIx, isOwn, dApp, dFor, iVals, iRes, iSeq, dSl, pNo, pSome, dNeg, fdivD, modD, powD, mulA, mulI, absD, intD, max2D, min2D, max3D, min3D, isND, notND, dRaise, dDict, okP, flp, sq_tIs, sq_fIs, sq_tT, sq_lT, sq_tB, sq_lB, isq_tIs, isq_fIs, isq_tT, isq_lT, isq_tB, isq_lB, len_tIs, len_fIs, len_tT, len_lT, len_tB, len_lB, en_tIs, en_fIs, en_tT, en_lT, en_tB, en_lB, tup_tIs, tup_fIs, tup_tT, tup_lT, tup_tB, tup_lB, lst_tIs, lst_fIs, lst_tT, lst_lT, lst_tB, lst_lB, Tg_0, Tg_1, f_tIs, f_fIs, f_tT, f_lT, f_tB, f_lB, List.getElem?_set, List.getElem?_cons_zero, List.getElem?_cons_succ, List.getElem?_nil, sq_tup, sq_lst, isq_tup, isq_lst, len_tup, len_lst, add_int, le_int, lt_int, ge_int, gt_int, vals_c1, vals_c0, vals_st1, vals_st0, any_bl, all_bl, ix_t0, ix_t1, ix_t2, -getElem?_pos, e0, q, et]
theorem st6 {S : List Int} {n : Int} {ρ : Zd.Env} {C : List Pt} (hS : LS S n ρ) (hC : C.length ≤ 24) (h : ∀ p ∈ C, TagOk p) (h5 : ρ[5]? = some (sv (tT C))) : S_law_6 ρ = .ok (ρ, .nx) := by
  have hl := hS.len
  have e0 := f_doubles hC h
  have q := lc_2 (v := 8) (w := 9) (ρ0 := ρ) (ρ := ρ) (di := iVals enum1 (aCons (oV (dName 5)) aNil)) (t := dBl (d2 (inD false) (oPl 9) (oV (dSl (oPl 5) pNo (pSome (dName 8)))))) (c := dName 8) (L := enL 0 C) (fun p => .int p.1) (fun p => Tg p.2) (fun p => decide (p.2 ∈ C.take p.1)) (fun p => .int p.1)
    (by omega) (by omega) (by decide) (hS.no (by decide)) (by simp [cfOf, startE, fin_, outsOf, retag, findTag, dRet, dSeq, dEnd, dNever, dIte, dIf, dDrop, dFld, dSet, toB, dC, dName, dBl, dNot, dAnd, dOr, tAndD, tOrD, tNotD, dTru, dBoolC, boolD, dIsi, dIsi2, dIsC, tyN, isN, d2, d3, oV, oPl, aNil, aCons, aStar, argB, argsB, ownPl, nodupB, wb, wb1, dCall, dMeth, oMake, oMake0, dSetFld, res, resAll, bV_val, bV_own, tD_lst, tD_ins, vals, dL, dLV, dTup, dLst, oLst, sz, ofO, i0D, iD, truD, dFz, R.bind, dAsg, gTp, gsCons, gsNil, gNm, dPar, setAll, dAug, dSetIx, isOwn, dApp, dFor, iVals, iRes, iSeq, dSl, pNo, pSome, dNeg, fdivD, modD, powD, mulA, mulI, absD, intD, max2D, min2D, max3D, min3D, isND, notND, dRaise, dDict, okP, flp, sq_tIs, sq_fIs, sq_tT, sq_lT, sq_tB, sq_lB, isq_tIs, isq_fIs, isq_tT, isq_lT, isq_tB, isq_lB, len_tIs, len_fIs, len_tT, len_lT, len_tB, len_lB, en_tIs, en_fIs, en_tT, en_lT, en_tB, en_lB, tup_tIs, tup_fIs, tup_tT, tup_lT, tup_tB, tup_lB, lst_tIs, lst_fIs, lst_tT, lst_lT, lst_tB, lst_lB, Tg_0, Tg_1, f_tIs, f_fIs, f_tT, f_lT, f_tB, f_lB, List.getElem?_set, List.getElem?_cons_zero, List.getElem?_cons_succ, List.getElem?_nil, sq_tup, sq_lst, isq_tup, isq_lst, len_tup, len_lst, add_int, le_int, lt_int, ge_int, gt_int, vals_c1, vals_c0, vals_st1, vals_st0, any_bl, all_bl, ix_t0, ix_t1, ix_t2, -getElem?_pos, h5])
    (fun p hp => by
      have e2 := pre_tT (C := C) (k := p.1) (by have := enL_in hp; omega)
      have e3 := in_tT false p.2 (C.take p.1)
      simp [cfOf, startE, fin_, outsOf, retag, findTag, dRet, dSeq, dEnd, dNever, dIte, dIf, dDrop, dFld, dSet, toB, dC, dName, dBl, dNot, dAnd, dOr, tAndD, tOrD, tNotD, dTru, dBoolC, boolD, dIsi, dIsi2, dIsC, tyN, isN, d2, d3, oV, oPl, aNil, aCons, aStar, argB, argsB, ownPl, nodupB, wb, wb1, dCall, dMeth, oMake, oMake0, dSetFld, res, resAll, bV_val, bV_own, tD_lst, tD_ins, vals, dL, dLV, dTup, dLst, oLst, sz, ofO, i0D, iD, truD, dFz, R.bind, dAsg, gTp, gsCons, gsNil, gNm, dPar, setAll, dAug, dSetIx, isOwn, dApp, dFor, iVals, iRes, iSeq, dSl, pNo, pSome, dNeg, fdivD, modD, powD, mulA, mulI, absD, intD, max2D, min2D, max3D, min3D, isND, notND, dRaise, dDict, okP, flp, sq_tIs, sq_fIs, sq_tT, sq_lT, sq_tB, sq_lB, isq_tIs, isq_fIs, isq_tT, isq_lT, isq_tB, isq_lB, len_tIs, len_fIs, len_tT, len_lT, len_tB, len_lB, en_tIs, en_fIs, en_tT, en_lT, en_tB, en_lB, tup_tIs, tup_fIs, tup_tT, tup_lT, tup_tB, tup_lB, lst_tIs, lst_fIs, lst_tT, lst_lT, lst_tB, lst_lB, Tg_0, Tg_1, f_tIs, f_fIs, f_tT, f_lT, f_tB, f_lB, List.getElem?_set, List.getElem?_cons_zero, List.getElem?_cons_succ, List.getElem?_nil, sq_tup, sq_lst, isq_tup, isq_lst, len_tup, len_lst, add_int, le_int, lt_int, ge_int, gt_int, vals_c1, vals_c0, vals_st1, vals_st0, any_bl, all_bl, ix_t0, ix_t1, ix_t2, -getElem?_pos, e2, e3, h5, hl])
    (fun p hp _ => by simp [cfOf, startE, fin_, outsOf, retag, findTag, dRet, dSeq, dEnd, dNever, dIte, dIf, dDrop, dFld, dSet, toB, dC, dName, dBl, dNot, dAnd, dOr, tAndD, tOrD, tNotD, dTru, dBoolC, boolD, dIsi, dIsi2, dIsC, tyN, isN, d2, d3, oV, oPl, aNil, aCons, aStar, argB, argsB, ownPl, nodupB, wb, wb1, dCall, dMeth, oMake, oMake0, dSetFld, res, resAll, bV_val, bV_own, tD_lst, tD_ins, vals, dL, dLV, dTup, dLst, oLst, sz, ofO, i0D, iD, truD, dFz, R.bind, dAsg, gTp, gsCons, gsNil, gNm, dPar, setAll, dAug, dSetIx, isOwn, dApp, dFor, iVals, iRes, iSeq, dSl, pNo, pSome, dNeg, fdivD, modD, powD, mulA, mulI, absD, intD, max2D, min2D, max3D, min3D, isND, notND, dRaise, dDict, okP, flp, sq_tIs, sq_fIs, sq_tT, sq_lT, sq_tB, sq_lB, isq_tIs, isq_fIs, isq_tT, isq_lT, isq_tB, isq_lB, len_tIs, len_fIs, len_tT, len_lT, len_tB, len_lB, en_tIs, en_fIs, en_tT, en_lT, en_tB, en_lB, tup_tIs, tup_fIs, tup_tT, tup_lT, tup_tB, tup_lB, lst_tIs, lst_fIs, lst_tT, lst_lT, lst_tB, lst_lB, Tg_0, Tg_1, f_tIs, f_fIs, f_tT, f_lT, f_tB, f_lB, List.getElem?_set, List.getElem?_cons_zero, List.getElem?_cons_succ, List.getElem?_nil, sq_tup, sq_lst, isq_tup, isq_lst, len_tup, len_lst, add_int, le_int, lt_int, ge_int, gt_int, vals_c1, vals_c0, vals_st1, vals_st0, any_bl, all_bl, ix_t0, ix_t1, ix_t2, -getElem?_pos, hl]) (by rw [enL_len]; omega)
  have et : tupleD [.lst (((enL 0 C).filter fun p => decide (p.2 ∈ C.take p.1)).map fun p => .int p.1)] = some (tIs (dblL C)) := by
    simp [tupleD, isSq, tIs, dblL, Function.comp_def]
  generalize ((enL 0 C).filter fun p => decide (p.2 ∈ C.take p.1)).map (fun p => D.int p.1) = M at *
  unfold S_law_6
  generalize oLc _ _ _ _ _ = LC at *
  simp [cfOf, startE, fin_, outsOf, retag, findTag, dRet, dSeq, dEnd, dNever, dIte, dIf, dDrop, dFld, dSet, toB, dC, dName, dBl, dNot, dAnd, dOr, tAndD, tOrD, tNotD, dTru, dBoolC, boolD, dIsi, dIsi2, dIsC, tyN, isN, d2, d3, oV, oPl, aNil, aCons, aStar, argB, argsB, ownPl, nodupB, wb, wb1, dCall, dMeth, oMake, oMake0, dSetFld, res, resAll, bV_val, bV_own, tD_lst, tD_ins, vals, dL, dLV, dTup, dLst, oLst, sz, ofO, i0D, iD, truD, dFz, R.bind, dAsg, gTp, gsCons, gsNil, gNm, dPar, setAll, dAug, dSetIx, isOwn, dApp, dFor, iVals, iRes, iSeq, dSl, pNo, pSome, dNeg, fdivD, modD, powD, mulA, mulI, absD, intD, max2D, min2D, max3D, min3D, isND, notND, dRaise, dDict, okP, flp, sq_tIs, sq_fIs, sq_tT, sq_lT, sq_tB, sq_lB, isq_tIs, isq_fIs, isq_tT, isq_lT, isq_tB, isq_lB, len_tIs, len_fIs, len_tT, len_lT, len_tB, len_lB, en_tIs, en_fIs, en_tT, en_lT, en_tB, en_lB, tup_tIs, tup_fIs, tup_tT, tup_lT, tup_tB, tup_lB, lst_tIs, lst_fIs, lst_tT, lst_lT, lst_tB, lst_lB, Tg_0, Tg_1, f_tIs, f_fIs, f_tT, f_lT, f_tB, f_lB, List.getElem?_set, List.getElem?_cons_zero, List.getElem?_cons_succ, List.getElem?_nil, sq_tup, sq_lst, isq_tup, isq_lst, len_tup, len_lst, add_int, le_int, lt_int, ge_int, gt_int, vals_c1, vals_c0, vals_st1, vals_st0, any_bl, all_bl, ix_t0, ix_t1, ix_t2, -getElem?_pos, e0, q, et, h5, ne_tI]
end A
end
section
namespace A
open PySem Zd
set_option autoImplicit false
/-- out of the crowd, or come too often -/
def badA (L : List Int) (t : Int) (pre : List Pt) (p : Pt) : Bool := decide ((L.length : Int) ≤ p.1) || (decide (lgt L p.1 ≤ p.2) || decide (t ≤ (idx pre p).length))
def badB (pre : List Pt) (p : Pt) : Bool := decide (0 < p.2) && !decide ((p.1, p.2 - 1) ∈ pre)
def late (g : Int) (pre : List Pt) (p : Pt) : Bool := match (idx pre p).getLast? with
  | none => false
  | some z => decide (g < (pre.length : Int) - z - 1)
def can1 (L : List Int) (t g : Int) (pre : List Pt) (p : Pt) : Bool := !(badA L t pre p) && (!(badB pre p) && !(late g pre p))
def mcA : DTn := (tOrD (dBl (d2 geD (oPl 5) (oV (dL lenD (aCons (oPl 0) aNil))))) (tOrD (dBl (d2 geD (oPl 6) (oV (d2 ixD (oPl 0) (oPl 5))))) (dBl (d2 geD (oV (dTM countD (oPl 3) (aCons (oPl 4) aNil))) (oPl 1)))))
def mcB : DTn := (tAndD (dBl (d2 gtD (oPl 6) (oV (dC (.int 0))))) (dBl (d2 (inD true) (oV (dTup (aCons (oV (dName 5)) (aCons (oV (d2 (i0D fun i j => .int (i - j)) (oPl 6) (oV (dC (.int 1))))) aNil)))) (oPl 3))))
def mcL : DOn := (oLc (iVals enum1 (aCons (oV (dName 3)) aNil)) [7, 8] (gTp (gsCons (gNm 7) (gsCons (gNm 8) gsNil))) (dBl (d2 eqD (oPl 8) (oPl 4))) (dName 7))
def mcE : DEn := (dOr (d2 (inD true) (oPl 4) (oPl 3)) (d2 leD (oV (d2 (i0D fun i j => .int (i - j)) (oV (d2 (i0D fun i j => .int (i - j)) (oV (dL lenD (aCons (oPl 3) aNil))) (oV (dC (.int 1))))) (oV (dL maxD (aCons mcL aNil))))) (oPl 2)))
theorem mc_eq : D_may_come = dSeq (dAsg (dName 4) (gTp (gsCons (gNm 5) (gsCons (gNm 6) gsNil)))) (dSeq (dIte mcA (dRet (dC (.bl false))) (dEnd .nx)) (dSeq (dIte mcB (dRet (dC (.bl false))) (dEnd .nx)) (dRet mcE))) := rfl
theorem f_may_come {L : List Int} {t g : Int} {pre : List Pt} {p : Pt} (h0 : 0 ≤ p.1) (hpre : pre.length ≤ 1000) :
    F_may_come [.val (tIs L), iv t, iv g, .val (tT pre), .val (Tg p)] = .ok [none, none, none, none, none] (.bl (can1 L t g pre p)) := by
  have key : ∀ ρ : Zd.Env, ρ = [sv (tIs L), some (iv t), some (iv g), sv (tT pre), sv (Tg p), some (iv p.1), some (iv p.2), none, none] →
      mcA ρ = .ok (ρ, badA L t pre p) ∧ mcB ρ = .ok (ρ, badB pre p) ∧ mcE ρ = .ok (ρ, .bl (!(late g pre p))) := fun ρ hρ => by
    have g0 : ρ[0]? = some (sv (tIs L)) := by rw [hρ]; rfl
    have g1 : ρ[1]? = some (some (iv t)) := by rw [hρ]; rfl
    have g2 : ρ[2]? = some (some (iv g)) := by rw [hρ]; rfl
    have g3 : ρ[3]? = some (sv (tT pre)) := by rw [hρ]; rfl
    have g4 : ρ[4]? = some (sv (Tg p)) := by rw [hρ]; rfl
    have g5 : ρ[5]? = some (some (iv p.1)) := by rw [hρ]; rfl
    have g6 : ρ[6]? = some (some (iv p.2)) := by rw [hρ]; rfl
    have gl : ρ.length = 9 := by rw [hρ]; rfl
    have gn : noOwn ρ [7, 8] = true := by rw [hρ]; rfl
    clear hρ
    have c0 := cnt_tT g3 g4
    rw [idx_count] at c0
    refine ⟨tor_b _ _ ?_ fun hA => tor_b _ _ ?_ fun hB => ?_, tand_b _ _ ?_ fun hA => ?_, ?_⟩
    · simp [cfOf, startE, fin_, outsOf, retag, findTag, dRet, dSeq, dEnd, dNever, dIte, dIf, dDrop, dFld, dSet, toB, dC, dName, dBl, dNot, dAnd, dOr, tAndD, tOrD, tNotD, dTru, dBoolC, boolD, dIsi, dIsi2, dIsC, tyN, isN, d2, d3, oV, oPl, aNil, aCons, aStar, argB, argsB, ownPl, nodupB, wb, wb1, dCall, dMeth, oMake, oMake0, dSetFld, res, resAll, bV_val, bV_own, tD_lst, tD_ins, vals, dL, dLV, dTup, dLst, oLst, sz, ofO, i0D, iD, truD, dFz, R.bind, dAsg, gTp, gsCons, gsNil, gNm, dPar, setAll, dAug, dSetIx, isOwn, dApp, dFor, iVals, iRes, iSeq, dSl, pNo, pSome, dNeg, fdivD, modD, powD, mulA, mulI, absD, intD, max2D, min2D, max3D, min3D, isND, notND, dRaise, dDict, okP, flp, sq_tIs, sq_fIs, sq_tT, sq_lT, sq_tB, sq_lB, isq_tIs, isq_fIs, isq_tT, isq_lT, isq_tB, isq_lB, len_tIs, len_fIs, len_tT, len_lT, len_tB, len_lB, en_tIs, en_fIs, en_tT, en_lT, en_tB, en_lB, tup_tIs, tup_fIs, tup_tT, tup_lT, tup_tB, tup_lB, lst_tIs, lst_fIs, lst_tT, lst_lT, lst_tB, lst_lB, Tg_0, Tg_1, f_tIs, f_fIs, f_tT, f_lT, f_tB, f_lB, List.getElem?_set, List.getElem?_cons_zero, List.getElem?_cons_succ, List.getElem?_nil, sq_tup, sq_lst, isq_tup, isq_lst, len_tup, len_lst, add_int, le_int, lt_int, ge_int, gt_int, vals_c1, vals_c0, vals_st1, vals_st0, any_bl, all_bl, ix_t0, ix_t1, ix_t2, -getElem?_pos, g0, g5]
    · simp at hA
      simp [cfOf, startE, fin_, outsOf, retag, findTag, dRet, dSeq, dEnd, dNever, dIte, dIf, dDrop, dFld, dSet, toB, dC, dName, dBl, dNot, dAnd, dOr, tAndD, tOrD, tNotD, dTru, dBoolC, boolD, dIsi, dIsi2, dIsC, tyN, isN, d2, d3, oV, oPl, aNil, aCons, aStar, argB, argsB, ownPl, nodupB, wb, wb1, dCall, dMeth, oMake, oMake0, dSetFld, res, resAll, bV_val, bV_own, tD_lst, tD_ins, vals, dL, dLV, dTup, dLst, oLst, sz, ofO, i0D, iD, truD, dFz, R.bind, dAsg, gTp, gsCons, gsNil, gNm, dPar, setAll, dAug, dSetIx, isOwn, dApp, dFor, iVals, iRes, iSeq, dSl, pNo, pSome, dNeg, fdivD, modD, powD, mulA, mulI, absD, intD, max2D, min2D, max3D, min3D, isND, notND, dRaise, dDict, okP, flp, sq_tIs, sq_fIs, sq_tT, sq_lT, sq_tB, sq_lB, isq_tIs, isq_fIs, isq_tT, isq_lT, isq_tB, isq_lB, len_tIs, len_fIs, len_tT, len_lT, len_tB, len_lB, en_tIs, en_fIs, en_tT, en_lT, en_tB, en_lB, tup_tIs, tup_fIs, tup_tT, tup_lT, tup_tB, tup_lB, lst_tIs, lst_fIs, lst_tT, lst_lT, lst_tB, lst_lB, Tg_0, Tg_1, f_tIs, f_fIs, f_tT, f_lT, f_tB, f_lB, List.getElem?_set, List.getElem?_cons_zero, List.getElem?_cons_succ, List.getElem?_nil, sq_tup, sq_lst, isq_tup, isq_lst, len_tup, len_lst, add_int, le_int, lt_int, ge_int, gt_int, vals_c1, vals_c0, vals_st1, vals_st0, any_bl, all_bl, ix_t0, ix_t1, ix_t2, -getElem?_pos, g0, g5, g6, ixi_tIs h0 (show p.1 < L.length by omega)]
    · simp [cfOf, startE, fin_, outsOf, retag, findTag, dRet, dSeq, dEnd, dNever, dIte, dIf, dDrop, dFld, dSet, toB, dC, dName, dBl, dNot, dAnd, dOr, tAndD, tOrD, tNotD, dTru, dBoolC, boolD, dIsi, dIsi2, dIsC, tyN, isN, d2, d3, oV, oPl, aNil, aCons, aStar, argB, argsB, ownPl, nodupB, wb, wb1, dCall, dMeth, oMake, oMake0, dSetFld, res, resAll, bV_val, bV_own, tD_lst, tD_ins, vals, dL, dLV, dTup, dLst, oLst, sz, ofO, i0D, iD, truD, dFz, R.bind, dAsg, gTp, gsCons, gsNil, gNm, dPar, setAll, dAug, dSetIx, isOwn, dApp, dFor, iVals, iRes, iSeq, dSl, pNo, pSome, dNeg, fdivD, modD, powD, mulA, mulI, absD, intD, max2D, min2D, max3D, min3D, isND, notND, dRaise, dDict, okP, flp, sq_tIs, sq_fIs, sq_tT, sq_lT, sq_tB, sq_lB, isq_tIs, isq_fIs, isq_tT, isq_lT, isq_tB, isq_lB, len_tIs, len_fIs, len_tT, len_lT, len_tB, len_lB, en_tIs, en_fIs, en_tT, en_lT, en_tB, en_lB, tup_tIs, tup_fIs, tup_tT, tup_lT, tup_tB, tup_lB, lst_tIs, lst_fIs, lst_tT, lst_lT, lst_tB, lst_lB, Tg_0, Tg_1, f_tIs, f_fIs, f_tT, f_lT, f_tB, f_lB, List.getElem?_set, List.getElem?_cons_zero, List.getElem?_cons_succ, List.getElem?_nil, sq_tup, sq_lst, isq_tup, isq_lst, len_tup, len_lst, add_int, le_int, lt_int, ge_int, gt_int, vals_c1, vals_c0, vals_st1, vals_st0, any_bl, all_bl, ix_t0, ix_t1, ix_t2, -getElem?_pos, c0, g1]
    · simp [cfOf, startE, fin_, outsOf, retag, findTag, dRet, dSeq, dEnd, dNever, dIte, dIf, dDrop, dFld, dSet, toB, dC, dName, dBl, dNot, dAnd, dOr, tAndD, tOrD, tNotD, dTru, dBoolC, boolD, dIsi, dIsi2, dIsC, tyN, isN, d2, d3, oV, oPl, aNil, aCons, aStar, argB, argsB, ownPl, nodupB, wb, wb1, dCall, dMeth, oMake, oMake0, dSetFld, res, resAll, bV_val, bV_own, tD_lst, tD_ins, vals, dL, dLV, dTup, dLst, oLst, sz, ofO, i0D, iD, truD, dFz, R.bind, dAsg, gTp, gsCons, gsNil, gNm, dPar, setAll, dAug, dSetIx, isOwn, dApp, dFor, iVals, iRes, iSeq, dSl, pNo, pSome, dNeg, fdivD, modD, powD, mulA, mulI, absD, intD, max2D, min2D, max3D, min3D, isND, notND, dRaise, dDict, okP, flp, sq_tIs, sq_fIs, sq_tT, sq_lT, sq_tB, sq_lB, isq_tIs, isq_fIs, isq_tT, isq_lT, isq_tB, isq_lB, len_tIs, len_fIs, len_tT, len_lT, len_tB, len_lB, en_tIs, en_fIs, en_tT, en_lT, en_tB, en_lB, tup_tIs, tup_fIs, tup_tT, tup_lT, tup_tB, tup_lB, lst_tIs, lst_fIs, lst_tT, lst_lT, lst_tB, lst_lB, Tg_0, Tg_1, f_tIs, f_fIs, f_tT, f_lT, f_tB, f_lB, List.getElem?_set, List.getElem?_cons_zero, List.getElem?_cons_succ, List.getElem?_nil, sq_tup, sq_lst, isq_tup, isq_lst, len_tup, len_lst, add_int, le_int, lt_int, ge_int, gt_int, vals_c1, vals_c0, vals_st1, vals_st0, any_bl, all_bl, ix_t0, ix_t1, ix_t2, -getElem?_pos, g6]
    · simp [cfOf, startE, fin_, outsOf, retag, findTag, dRet, dSeq, dEnd, dNever, dIte, dIf, dDrop, dFld, dSet, toB, dC, dName, dBl, dNot, dAnd, dOr, tAndD, tOrD, tNotD, dTru, dBoolC, boolD, dIsi, dIsi2, dIsC, tyN, isN, d2, d3, oV, oPl, aNil, aCons, aStar, argB, argsB, ownPl, nodupB, wb, wb1, dCall, dMeth, oMake, oMake0, dSetFld, res, resAll, bV_val, bV_own, tD_lst, tD_ins, vals, dL, dLV, dTup, dLst, oLst, sz, ofO, i0D, iD, truD, dFz, R.bind, dAsg, gTp, gsCons, gsNil, gNm, dPar, setAll, dAug, dSetIx, isOwn, dApp, dFor, iVals, iRes, iSeq, dSl, pNo, pSome, dNeg, fdivD, modD, powD, mulA, mulI, absD, intD, max2D, min2D, max3D, min3D, isND, notND, dRaise, dDict, okP, flp, sq_tIs, sq_fIs, sq_tT, sq_lT, sq_tB, sq_lB, isq_tIs, isq_fIs, isq_tT, isq_lT, isq_tB, isq_lB, len_tIs, len_fIs, len_tT, len_lT, len_tB, len_lB, en_tIs, en_fIs, en_tT, en_lT, en_tB, en_lB, tup_tIs, tup_fIs, tup_tT, tup_lT, tup_tB, tup_lB, lst_tIs, lst_fIs, lst_tT, lst_lT, lst_tB, lst_lB, Tg_0, Tg_1, f_tIs, f_fIs, f_tT, f_lT, f_tB, f_lB, List.getElem?_set, List.getElem?_cons_zero, List.getElem?_cons_succ, List.getElem?_nil, sq_tup, sq_lst, isq_tup, isq_lst, len_tup, len_lst, add_int, le_int, lt_int, ge_int, gt_int, vals_c1, vals_c0, vals_st1, vals_st0, any_bl, all_bl, ix_t0, ix_t1, ix_t2, -getElem?_pos, g3, g5, g6, mk_Tg, in_tT]
    · have q := lc_2 (v := 7) (w := 8) (ρ0 := ρ) (ρ := ρ) (di := iVals enum1 (aCons (oV (dName 3)) aNil)) (t := dBl (d2 eqD (oPl 8) (oPl 4))) (c := dName 7) (L := enL 0 pre) (fun p => .int p.1) (fun p => Tg p.2) (fun q => decide (q.2 = p)) (fun p => .int p.1)
        (by omega) (by omega) (by decide) gn (by simp [cfOf, startE, fin_, outsOf, retag, findTag, dRet, dSeq, dEnd, dNever, dIte, dIf, dDrop, dFld, dSet, toB, dC, dName, dBl, dNot, dAnd, dOr, tAndD, tOrD, tNotD, dTru, dBoolC, boolD, dIsi, dIsi2, dIsC, tyN, isN, d2, d3, oV, oPl, aNil, aCons, aStar, argB, argsB, ownPl, nodupB, wb, wb1, dCall, dMeth, oMake, oMake0, dSetFld, res, resAll, bV_val, bV_own, tD_lst, tD_ins, vals, dL, dLV, dTup, dLst, oLst, sz, ofO, i0D, iD, truD, dFz, R.bind, dAsg, gTp, gsCons, gsNil, gNm, dPar, setAll, dAug, dSetIx, isOwn, dApp, dFor, iVals, iRes, iSeq, dSl, pNo, pSome, dNeg, fdivD, modD, powD, mulA, mulI, absD, intD, max2D, min2D, max3D, min3D, isND, notND, dRaise, dDict, okP, flp, sq_tIs, sq_fIs, sq_tT, sq_lT, sq_tB, sq_lB, isq_tIs, isq_fIs, isq_tT, isq_lT, isq_tB, isq_lB, len_tIs, len_fIs, len_tT, len_lT, len_tB, len_lB, en_tIs, en_fIs, en_tT, en_lT, en_tB, en_lB, tup_tIs, tup_fIs, tup_tT, tup_lT, tup_tB, tup_lB, lst_tIs, lst_fIs, lst_tT, lst_lT, lst_tB, lst_lB, Tg_0, Tg_1, f_tIs, f_fIs, f_tT, f_lT, f_tB, f_lB, List.getElem?_set, List.getElem?_cons_zero, List.getElem?_cons_succ, List.getElem?_nil, sq_tup, sq_lst, isq_tup, isq_lst, len_tup, len_lst, add_int, le_int, lt_int, ge_int, gt_int, vals_c1, vals_c0, vals_st1, vals_st0, any_bl, all_bl, ix_t0, ix_t1, ix_t2, -getElem?_pos, g3])
        (fun x hx => by simp [cfOf, startE, fin_, outsOf, retag, findTag, dRet, dSeq, dEnd, dNever, dIte, dIf, dDrop, dFld, dSet, toB, dC, dName, dBl, dNot, dAnd, dOr, tAndD, tOrD, tNotD, dTru, dBoolC, boolD, dIsi, dIsi2, dIsC, tyN, isN, d2, d3, oV, oPl, aNil, aCons, aStar, argB, argsB, ownPl, nodupB, wb, wb1, dCall, dMeth, oMake, oMake0, dSetFld, res, resAll, bV_val, bV_own, tD_lst, tD_ins, vals, dL, dLV, dTup, dLst, oLst, sz, ofO, i0D, iD, truD, dFz, R.bind, dAsg, gTp, gsCons, gsNil, gNm, dPar, setAll, dAug, dSetIx, isOwn, dApp, dFor, iVals, iRes, iSeq, dSl, pNo, pSome, dNeg, fdivD, modD, powD, mulA, mulI, absD, intD, max2D, min2D, max3D, min3D, isND, notND, dRaise, dDict, okP, flp, sq_tIs, sq_fIs, sq_tT, sq_lT, sq_tB, sq_lB, isq_tIs, isq_fIs, isq_tT, isq_lT, isq_tB, isq_lB, len_tIs, len_fIs, len_tT, len_lT, len_tB, len_lB, en_tIs, en_fIs, en_tT, en_lT, en_tB, en_lB, tup_tIs, tup_fIs, tup_tT, tup_lT, tup_tB, tup_lB, lst_tIs, lst_fIs, lst_tT, lst_lT, lst_tB, lst_lB, Tg_0, Tg_1, f_tIs, f_fIs, f_tT, f_lT, f_tB, f_lB, List.getElem?_set, List.getElem?_cons_zero, List.getElem?_cons_succ, List.getElem?_nil, sq_tup, sq_lst, isq_tup, isq_lst, len_tup, len_lst, add_int, le_int, lt_int, ge_int, gt_int, vals_c1, vals_c0, vals_st1, vals_st0, any_bl, all_bl, ix_t0, ix_t1, ix_t2, -getElem?_pos, g4, gl, eq_Tg])
        (fun x hx _ => by simp [cfOf, startE, fin_, outsOf, retag, findTag, dRet, dSeq, dEnd, dNever, dIte, dIf, dDrop, dFld, dSet, toB, dC, dName, dBl, dNot, dAnd, dOr, tAndD, tOrD, tNotD, dTru, dBoolC, boolD, dIsi, dIsi2, dIsC, tyN, isN, d2, d3, oV, oPl, aNil, aCons, aStar, argB, argsB, ownPl, nodupB, wb, wb1, dCall, dMeth, oMake, oMake0, dSetFld, res, resAll, bV_val, bV_own, tD_lst, tD_ins, vals, dL, dLV, dTup, dLst, oLst, sz, ofO, i0D, iD, truD, dFz, R.bind, dAsg, gTp, gsCons, gsNil, gNm, dPar, setAll, dAug, dSetIx, isOwn, dApp, dFor, iVals, iRes, iSeq, dSl, pNo, pSome, dNeg, fdivD, modD, powD, mulA, mulI, absD, intD, max2D, min2D, max3D, min3D, isND, notND, dRaise, dDict, okP, flp, sq_tIs, sq_fIs, sq_tT, sq_lT, sq_tB, sq_lB, isq_tIs, isq_fIs, isq_tT, isq_lT, isq_tB, isq_lB, len_tIs, len_fIs, len_tT, len_lT, len_tB, len_lB, en_tIs, en_fIs, en_tT, en_lT, en_tB, en_lB, tup_tIs, tup_fIs, tup_tT, tup_lT, tup_tB, tup_lB, lst_tIs, lst_fIs, lst_tT, lst_lT, lst_tB, lst_lB, Tg_0, Tg_1, f_tIs, f_fIs, f_tT, f_lT, f_tB, f_lB, List.getElem?_set, List.getElem?_cons_zero, List.getElem?_cons_succ, List.getElem?_nil, sq_tup, sq_lst, isq_tup, isq_lst, len_tup, len_lst, add_int, le_int, lt_int, ge_int, gt_int, vals_c1, vals_c0, vals_st1, vals_st0, any_bl, all_bl, ix_t0, ix_t1, ix_t2, -getElem?_pos, gl]) (by rw [enL_len]; omega)
      have ex : ((enL 0 pre).filter fun q => decide (q.2 = p)).map (fun q => D.int q.1) = (idx pre p).map fun i : Nat => D.int (i : Int) := by
        have := congrArg (List.map fun i : Nat => D.int (i : Int)) (idx_enL p pre 0)
        rw [List.map_map] at this
        simpa [Function.comp_def] using this
      rw [ex] at q
      have q : mcL ρ = _ := q
      unfold mcE late
      generalize mcL = LC at *
      cases hz : (idx pre p).getLast? with
      | none =>
        have hm : p ∉ pre := (idx_mem pre p).mp (List.getLast?_eq_none_iff.mp hz)
        simp [cfOf, startE, fin_, outsOf, retag, findTag, dRet, dSeq, dEnd, dNever, dIte, dIf, dDrop, dFld, dSet, toB, dC, dName, dBl, dNot, dAnd, dOr, tAndD, tOrD, tNotD, dTru, dBoolC, boolD, dIsi, dIsi2, dIsC, tyN, isN, d2, d3, oV, oPl, aNil, aCons, aStar, argB, argsB, ownPl, nodupB, wb, wb1, dCall, dMeth, oMake, oMake0, dSetFld, res, resAll, bV_val, bV_own, tD_lst, tD_ins, vals, dL, dLV, dTup, dLst, oLst, sz, ofO, i0D, iD, truD, dFz, R.bind, dAsg, gTp, gsCons, gsNil, gNm, dPar, setAll, dAug, dSetIx, isOwn, dApp, dFor, iVals, iRes, iSeq, dSl, pNo, pSome, dNeg, fdivD, modD, powD, mulA, mulI, absD, intD, max2D, min2D, max3D, min3D, isND, notND, dRaise, dDict, okP, flp, sq_tIs, sq_fIs, sq_tT, sq_lT, sq_tB, sq_lB, isq_tIs, isq_fIs, isq_tT, isq_lT, isq_tB, isq_lB, len_tIs, len_fIs, len_tT, len_lT, len_tB, len_lB, en_tIs, en_fIs, en_tT, en_lT, en_tB, en_lB, tup_tIs, tup_fIs, tup_tT, tup_lT, tup_tB, tup_lB, lst_tIs, lst_fIs, lst_tT, lst_lT, lst_tB, lst_lB, Tg_0, Tg_1, f_tIs, f_fIs, f_tT, f_lT, f_tB, f_lB, List.getElem?_set, List.getElem?_cons_zero, List.getElem?_cons_succ, List.getElem?_nil, sq_tup, sq_lst, isq_tup, isq_lst, len_tup, len_lst, add_int, le_int, lt_int, ge_int, gt_int, vals_c1, vals_c0, vals_st1, vals_st0, any_bl, all_bl, ix_t0, ix_t1, ix_t2, -getElem?_pos, g3, g4, in_tT, hm]
      | some z =>
        have hm : p ∈ pre := by
          refine Decidable.byContradiction fun hm => ?_
          rw [(idx_mem pre p).mpr hm] at hz
          cases hz
        have hx := max_idx (idx_asc pre p) hz
        generalize (idx pre p).map (fun i : Nat => D.int (i : Int)) = M at *
        simp [cfOf, startE, fin_, outsOf, retag, findTag, dRet, dSeq, dEnd, dNever, dIte, dIf, dDrop, dFld, dSet, toB, dC, dName, dBl, dNot, dAnd, dOr, tAndD, tOrD, tNotD, dTru, dBoolC, boolD, dIsi, dIsi2, dIsC, tyN, isN, d2, d3, oV, oPl, aNil, aCons, aStar, argB, argsB, ownPl, nodupB, wb, wb1, dCall, dMeth, oMake, oMake0, dSetFld, res, resAll, bV_val, bV_own, tD_lst, tD_ins, vals, dL, dLV, dTup, dLst, oLst, sz, ofO, i0D, iD, truD, dFz, R.bind, dAsg, gTp, gsCons, gsNil, gNm, dPar, setAll, dAug, dSetIx, isOwn, dApp, dFor, iVals, iRes, iSeq, dSl, pNo, pSome, dNeg, fdivD, modD, powD, mulA, mulI, absD, intD, max2D, min2D, max3D, min3D, isND, notND, dRaise, dDict, okP, flp, sq_tIs, sq_fIs, sq_tT, sq_lT, sq_tB, sq_lB, isq_tIs, isq_fIs, isq_tT, isq_lT, isq_tB, isq_lB, len_tIs, len_fIs, len_tT, len_lT, len_tB, len_lB, en_tIs, en_fIs, en_tT, en_lT, en_tB, en_lB, tup_tIs, tup_fIs, tup_tT, tup_lT, tup_tB, tup_lB, lst_tIs, lst_fIs, lst_tT, lst_lT, lst_tB, lst_lB, Tg_0, Tg_1, f_tIs, f_fIs, f_tT, f_lT, f_tB, f_lB, List.getElem?_set, List.getElem?_cons_zero, List.getElem?_cons_succ, List.getElem?_nil, sq_tup, sq_lst, isq_tup, isq_lst, len_tup, len_lst, add_int, le_int, lt_int, ge_int, gt_int, vals_c1, vals_c0, vals_st1, vals_st0, any_bl, all_bl, ix_t0, ix_t1, ix_t2, -getElem?_pos, g2, g3, g4, in_tT, hm, q, hx]
        rw [Bool.eq_iff_iff]
        simp
        omega
  obtain ⟨k1, k2, k3⟩ := key _ rfl
  have hc : can1 L t g pre p = (if badA L t pre p = true then false else if badB pre p = true then false else !(late g pre p)) := by
    unfold can1
    cases badA L t pre p <;> cases badB pre p <;> rfl
  rw [hc]
  have hs : (gTp (gsCons (gNm 5) (gsCons (gNm 6) gsNil))) (Tg p) [sv (tIs L), some (iv t), some (iv g), sv (tT pre), sv (Tg p), none, none, none, none] = some [sv (tIs L), some (iv t), some (iv g), sv (tT pre), sv (Tg p), some (iv p.1), some (iv p.2), none, none] := rfl
  unfold F_may_come
  rw [mc_eq]
  generalize (gTp (gsCons (gNm 5) (gsCons (gNm 6) gsNil))) = G at *
  generalize mcA = a1 at *
  generalize mcB = a2 at *
  generalize mcE = a3 at *
  generalize badA L t pre p = b1 at *
  generalize badB pre p = b2 at *
  generalize late g pre p = b3 at *
  cases b1 <;> cases b2 <;> simp [cfOf, startE, fin_, outsOf, retag, findTag, dRet, dSeq, dEnd, dNever, dIte, dIf, dDrop, dFld, dSet, toB, dC, dName, dBl, dNot, dAnd, dOr, tAndD, tOrD, tNotD, dTru, dBoolC, boolD, dIsi, dIsi2, dIsC, tyN, isN, d2, d3, oV, oPl, aNil, aCons, aStar, argB, argsB, ownPl, nodupB, wb, wb1, dCall, dMeth, oMake, oMake0, dSetFld, res, resAll, bV_val, bV_own, tD_lst, tD_ins, vals, dL, dLV, dTup, dLst, oLst, sz, ofO, i0D, iD, truD, dFz, R.bind, dAsg, gTp, gsCons, gsNil, gNm, dPar, setAll, dAug, dSetIx, isOwn, dApp, dFor, iVals, iRes, iSeq, dSl, pNo, pSome, dNeg, fdivD, modD, powD, mulA, mulI, absD, intD, max2D, min2D, max3D, min3D, isND, notND, dRaise, dDict, okP, flp, sq_tIs, sq_fIs, sq_tT, sq_lT, sq_tB, sq_lB, isq_tIs, isq_fIs, isq_tT, isq_lT, isq_tB, isq_lB, len_tIs, len_fIs, len_tT, len_lT, len_tB, len_lB, en_tIs, en_fIs, en_tT, en_lT, en_tB, en_lB, tup_tIs, tup_fIs, tup_tT, tup_lT, tup_tB, tup_lB, lst_tIs, lst_fIs, lst_tT, lst_lT, lst_tB, lst_lB, Tg_0, Tg_1, f_tIs, f_fIs, f_tT, f_lT, f_tB, f_lB, List.getElem?_set, List.getElem?_cons_zero, List.getElem?_cons_succ, List.getElem?_nil, sq_tup, sq_lst, isq_tup, isq_lst, len_tup, len_lst, add_int, le_int, lt_int, ge_int, gt_int, vals_c1, vals_c0, vals_st1, vals_st0, any_bl, all_bl, ix_t0, ix_t1, ix_t2, -getElem?_pos, hs, k1, k2, k3]
end A
end
section
namespace A
open PySem Zd
set_option autoImplicit false
def canA (L : List Int) (t g : Int) (C : List Pt) : Bool := ((enL 0 C).find? fun q => !can1 L t g (C.take q.1) q.2).isNone
def lcL : DOn := (oLc (iRes rng1 (aCons (oPl 4) aNil)) [7] (gNm 7) (dBl (d2 eqD (oV (d2 ixD (oPl 3) (oPl 7))) (oV (dTup (aCons (oV (dName 5)) (aCons (oV (dName 6)) aNil)))))) (dName 7))
def lcA : DTn := (tOrD (dBl (d2 geD (oPl 5) (oV (dL lenD (aCons (oPl 0) aNil))))) (tOrD (dBl (d2 geD (oPl 6) (oV (d2 ixD (oPl 0) (oPl 5))))) (tOrD (dBl (d2 geD (oV (dL lenD (aCons (oPl 8) aNil))) (oPl 1))) (tAndD (dBl (d2 neD (oPl 8) (oLst aNil))) (dBl (d2 gtD (oV (d2 (i0D fun i j => .int (i - j)) (oV (d2 (i0D fun i j => .int (i - j)) (oPl 4) (oV (d2 ixD (oPl 8) (oV (dNeg (oV (dC (.int 1))))))))) (oV (dC (.int 1))))) (oPl 2)))))))
def lcB : DTn := (tAndD (dBl (d2 gtD (oPl 6) (oV (dC (.int 0))))) (dBl (d2 (inD true) (oV (dTup (aCons (oV (dName 5)) (aCons (oV (d2 (i0D fun i j => .int (i - j)) (oPl 6) (oV (dC (.int 1))))) aNil)))) (oV (dSl (oPl 3) pNo (pSome (dName 4)))))))
def lcBody : DSn := dSeq (dSet 8 lcL) (dSeq (dIte lcA (dRet (dC (.bl false))) (dEnd .nx)) (dIte lcB (dRet (dC (.bl false))) (dEnd .nx)))
theorem lc_eq : D__law_can = dSeq (dFor (iVals enum1 (aCons (oV (dName 3)) aNil)) (gTp (gsCons (gNm 4) (gsCons (gTp (gsCons (gNm 5) (gsCons (gNm 6) gsNil))) gsNil))) lcBody) (dRet (dC (.bl true))) := rfl
theorem idx_take {C : List Pt} {k : Nat} (hk : k ≤ C.length) (x : Pt) : (List.range k).filter (fun i => decide (C[i]? = some x)) = idx (C.take k) x := by
  unfold idx
  rw [List.length_take, Nat.min_eq_left hk]
  refine List.filter_congr fun i hi => ?_
  rw [List.getElem?_take_of_lt (List.mem_range.mp hi)]
theorem lc_body {L : List Int} {t g : Int} {C : List Pt} {k : Nat} {x : Pt} {ρ : Zd.Env} (h0 : 0 ≤ x.1) (hC : C.length ≤ 1000) (hk : k < C.length) (gl : ρ.length = 9) (gn : noOwn ρ [7] = true) (g0 : ρ[0]? = some (sv (tIs L))) (g1 : ρ[1]? = some (some (iv t))) (g2 : ρ[2]? = some (some (iv g))) (g3 : ρ[3]? = some (sv (tT C)))
    (g4 : ρ[4]? = some (sv (.int k))) (g5 : ρ[5]? = some (some (iv x.1))) (g6 : ρ[6]? = some (some (iv x.2))) :
    lcBody ρ = .ok (ρ.set 8 (some (.own 0 (.lst ((idx (C.take k) x).map fun i : Nat => D.int (i : Int))))), if (!can1 L t g (C.take k) x) = true then .rt (.bl false) else .nx) := by
  have q := lc_1 (v := 7) (ρ0 := ρ) (ρ := ρ) (di := iRes rng1 (aCons (oPl 4) aNil)) (t := dBl (d2 eqD (oV (d2 ixD (oPl 3) (oPl 7))) (oV (dTup (aCons (oV (dName 5)) (aCons (oV (dName 6)) aNil)))))) (c := dName 7) (L := List.range k) (fun i : Nat => D.int (i : Int)) (fun i => decide (C[i]? = some x)) (fun i : Nat => D.int (i : Int))
    (by omega) gn (by
      have hnr : near (k : Int) = true := near_ok (by omega) (by omega)
      have hr : rngL 0 1 k = (List.range k).map fun i : Nat => D.int (i : Int) := by simp [rngL]
      simp [cfOf, startE, fin_, outsOf, retag, findTag, dRet, dSeq, dEnd, dNever, dIte, dIf, dDrop, dFld, dSet, toB, dC, dName, dBl, dNot, dAnd, dOr, tAndD, tOrD, tNotD, dTru, dBoolC, boolD, dIsi, dIsi2, dIsC, tyN, isN, d2, d3, oV, oPl, aNil, aCons, aStar, argB, argsB, ownPl, nodupB, wb, wb1, dCall, dMeth, oMake, oMake0, dSetFld, res, resAll, bV_val, bV_own, tD_lst, tD_ins, vals, dL, dLV, dTup, dLst, oLst, sz, ofO, i0D, iD, truD, dFz, R.bind, dAsg, gTp, gsCons, gsNil, gNm, dPar, setAll, dAug, dSetIx, isOwn, dApp, dFor, iVals, iRes, iSeq, dSl, pNo, pSome, dNeg, fdivD, modD, powD, mulA, mulI, absD, intD, max2D, min2D, max3D, min3D, isND, notND, dRaise, dDict, okP, flp, sq_tIs, sq_fIs, sq_tT, sq_lT, sq_tB, sq_lB, isq_tIs, isq_fIs, isq_tT, isq_lT, isq_tB, isq_lB, len_tIs, len_fIs, len_tT, len_lT, len_tB, len_lB, en_tIs, en_fIs, en_tT, en_lT, en_tB, en_lB, tup_tIs, tup_fIs, tup_tT, tup_lT, tup_tB, tup_lB, lst_tIs, lst_fIs, lst_tT, lst_lT, lst_tB, lst_lB, Tg_0, Tg_1, f_tIs, f_fIs, f_tT, f_lT, f_tB, f_lB, List.getElem?_set, List.getElem?_cons_zero, List.getElem?_cons_succ, List.getElem?_nil, sq_tup, sq_lst, isq_tup, isq_lst, len_tup, len_lst, add_int, le_int, lt_int, ge_int, gt_int, vals_c1, vals_c0, vals_st1, vals_st0, any_bl, all_bl, ix_t0, ix_t1, ix_t2, -getElem?_pos, g4, rng1, hnr, hr])
    (fun i hi => by
      have hi := List.mem_range.mp hi
      have hi' : i < C.length := by omega
      have e := ix_tT hi'
      simp [cfOf, startE, fin_, outsOf, retag, findTag, dRet, dSeq, dEnd, dNever, dIte, dIf, dDrop, dFld, dSet, toB, dC, dName, dBl, dNot, dAnd, dOr, tAndD, tOrD, tNotD, dTru, dBoolC, boolD, dIsi, dIsi2, dIsC, tyN, isN, d2, d3, oV, oPl, aNil, aCons, aStar, argB, argsB, ownPl, nodupB, wb, wb1, dCall, dMeth, oMake, oMake0, dSetFld, res, resAll, bV_val, bV_own, tD_lst, tD_ins, vals, dL, dLV, dTup, dLst, oLst, sz, ofO, i0D, iD, truD, dFz, R.bind, dAsg, gTp, gsCons, gsNil, gNm, dPar, setAll, dAug, dSetIx, isOwn, dApp, dFor, iVals, iRes, iSeq, dSl, pNo, pSome, dNeg, fdivD, modD, powD, mulA, mulI, absD, intD, max2D, min2D, max3D, min3D, isND, notND, dRaise, dDict, okP, flp, sq_tIs, sq_fIs, sq_tT, sq_lT, sq_tB, sq_lB, isq_tIs, isq_fIs, isq_tT, isq_lT, isq_tB, isq_lB, len_tIs, len_fIs, len_tT, len_lT, len_tB, len_lB, en_tIs, en_fIs, en_tT, en_lT, en_tB, en_lB, tup_tIs, tup_fIs, tup_tT, tup_lT, tup_tB, tup_lB, lst_tIs, lst_fIs, lst_tT, lst_lT, lst_tB, lst_lB, Tg_0, Tg_1, f_tIs, f_fIs, f_tT, f_lT, f_tB, f_lB, List.getElem?_set, List.getElem?_cons_zero, List.getElem?_cons_succ, List.getElem?_nil, sq_tup, sq_lst, isq_tup, isq_lst, len_tup, len_lst, add_int, le_int, lt_int, ge_int, gt_int, vals_c1, vals_c0, vals_st1, vals_st0, any_bl, all_bl, ix_t0, ix_t1, ix_t2, -getElem?_pos, gl, g3, g5, g6, e, mk_Tg, eq_Tg, hi']
      rw [List.getElem?_eq_getElem hi', Option.some.injEq])
    (fun i hi _ => by simp [cfOf, startE, fin_, outsOf, retag, findTag, dRet, dSeq, dEnd, dNever, dIte, dIf, dDrop, dFld, dSet, toB, dC, dName, dBl, dNot, dAnd, dOr, tAndD, tOrD, tNotD, dTru, dBoolC, boolD, dIsi, dIsi2, dIsC, tyN, isN, d2, d3, oV, oPl, aNil, aCons, aStar, argB, argsB, ownPl, nodupB, wb, wb1, dCall, dMeth, oMake, oMake0, dSetFld, res, resAll, bV_val, bV_own, tD_lst, tD_ins, vals, dL, dLV, dTup, dLst, oLst, sz, ofO, i0D, iD, truD, dFz, R.bind, dAsg, gTp, gsCons, gsNil, gNm, dPar, setAll, dAug, dSetIx, isOwn, dApp, dFor, iVals, iRes, iSeq, dSl, pNo, pSome, dNeg, fdivD, modD, powD, mulA, mulI, absD, intD, max2D, min2D, max3D, min3D, isND, notND, dRaise, dDict, okP, flp, sq_tIs, sq_fIs, sq_tT, sq_lT, sq_tB, sq_lB, isq_tIs, isq_fIs, isq_tT, isq_lT, isq_tB, isq_lB, len_tIs, len_fIs, len_tT, len_lT, len_tB, len_lB, en_tIs, en_fIs, en_tT, en_lT, en_tB, en_lB, tup_tIs, tup_fIs, tup_tT, tup_lT, tup_tB, tup_lB, lst_tIs, lst_fIs, lst_tT, lst_lT, lst_tB, lst_lB, Tg_0, Tg_1, f_tIs, f_fIs, f_tT, f_lT, f_tB, f_lB, List.getElem?_set, List.getElem?_cons_zero, List.getElem?_cons_succ, List.getElem?_nil, sq_tup, sq_lst, isq_tup, isq_lst, len_tup, len_lst, add_int, le_int, lt_int, ge_int, gt_int, vals_c1, vals_c0, vals_st1, vals_st0, any_bl, all_bl, ix_t0, ix_t1, ix_t2, -getElem?_pos, gl]) (by simp; omega)
  rw [idx_take (by omega)] at q
  have q : lcL ρ = _ := q
  have hp : (C.take k).length = k := by rw [List.length_take]; omega
  have hpre := pre_tT (C := C) (k := k) (by omega)
  have hx1 : ∀ z, (idx (C.take k) x).getLast? = some z → _ := fun z hz => ix_last hz
  have hn := ne_nats (idx (C.take k) x)
  generalize hM : (idx (C.take k) x).map (fun i : Nat => D.int (i : Int)) = M at *
  have hMl : M.length = (idx (C.take k) x).length := by rw [← hM]; simp
  have key : ∀ μ : Zd.Env, μ = ρ.set 8 (some (.own 0 (.lst M))) → lcA μ = .ok (μ, badA L t (C.take k) x || late g (C.take k) x) ∧ lcB μ = .ok (μ, badB (C.take k) x) := fun μ hμ => by
    have m0 : μ[0]? = some (sv (tIs L)) := by rw [hμ, get_ne (by decide)]; exact g0
    have m1 : μ[1]? = some (some (iv t)) := by rw [hμ, get_ne (by decide)]; exact g1
    have m2 : μ[2]? = some (some (iv g)) := by rw [hμ, get_ne (by decide)]; exact g2
    have m3 : μ[3]? = some (sv (tT C)) := by rw [hμ, get_ne (by decide)]; exact g3
    have m4 : μ[4]? = some (sv (.int k)) := by rw [hμ, get_ne (by decide)]; exact g4
    have m5 : μ[5]? = some (some (iv x.1)) := by rw [hμ, get_ne (by decide)]; exact g5
    have m6 : μ[6]? = some (some (iv x.2)) := by rw [hμ, get_ne (by decide)]; exact g6
    have m8 : μ[8]? = some (some (.own 0 (.lst M))) := by rw [hμ, get_eq (by omega)]
    clear hμ
    constructor
    · unfold badA
      rw [Bool.or_assoc, Bool.or_assoc]
      refine tor_b _ _ ?_ fun hA => tor_b _ _ ?_ fun hB => tor_b _ _ ?_ fun hD => ?_
      · simp [cfOf, startE, fin_, outsOf, retag, findTag, dRet, dSeq, dEnd, dNever, dIte, dIf, dDrop, dFld, dSet, toB, dC, dName, dBl, dNot, dAnd, dOr, tAndD, tOrD, tNotD, dTru, dBoolC, boolD, dIsi, dIsi2, dIsC, tyN, isN, d2, d3, oV, oPl, aNil, aCons, aStar, argB, argsB, ownPl, nodupB, wb, wb1, dCall, dMeth, oMake, oMake0, dSetFld, res, resAll, bV_val, bV_own, tD_lst, tD_ins, vals, dL, dLV, dTup, dLst, oLst, sz, ofO, i0D, iD, truD, dFz, R.bind, dAsg, gTp, gsCons, gsNil, gNm, dPar, setAll, dAug, dSetIx, isOwn, dApp, dFor, iVals, iRes, iSeq, dSl, pNo, pSome, dNeg, fdivD, modD, powD, mulA, mulI, absD, intD, max2D, min2D, max3D, min3D, isND, notND, dRaise, dDict, okP, flp, sq_tIs, sq_fIs, sq_tT, sq_lT, sq_tB, sq_lB, isq_tIs, isq_fIs, isq_tT, isq_lT, isq_tB, isq_lB, len_tIs, len_fIs, len_tT, len_lT, len_tB, len_lB, en_tIs, en_fIs, en_tT, en_lT, en_tB, en_lB, tup_tIs, tup_fIs, tup_tT, tup_lT, tup_tB, tup_lB, lst_tIs, lst_fIs, lst_tT, lst_lT, lst_tB, lst_lB, Tg_0, Tg_1, f_tIs, f_fIs, f_tT, f_lT, f_tB, f_lB, List.getElem?_set, List.getElem?_cons_zero, List.getElem?_cons_succ, List.getElem?_nil, sq_tup, sq_lst, isq_tup, isq_lst, len_tup, len_lst, add_int, le_int, lt_int, ge_int, gt_int, vals_c1, vals_c0, vals_st1, vals_st0, any_bl, all_bl, ix_t0, ix_t1, ix_t2, -getElem?_pos, m0, m5]
      · simp at hA
        simp [cfOf, startE, fin_, outsOf, retag, findTag, dRet, dSeq, dEnd, dNever, dIte, dIf, dDrop, dFld, dSet, toB, dC, dName, dBl, dNot, dAnd, dOr, tAndD, tOrD, tNotD, dTru, dBoolC, boolD, dIsi, dIsi2, dIsC, tyN, isN, d2, d3, oV, oPl, aNil, aCons, aStar, argB, argsB, ownPl, nodupB, wb, wb1, dCall, dMeth, oMake, oMake0, dSetFld, res, resAll, bV_val, bV_own, tD_lst, tD_ins, vals, dL, dLV, dTup, dLst, oLst, sz, ofO, i0D, iD, truD, dFz, R.bind, dAsg, gTp, gsCons, gsNil, gNm, dPar, setAll, dAug, dSetIx, isOwn, dApp, dFor, iVals, iRes, iSeq, dSl, pNo, pSome, dNeg, fdivD, modD, powD, mulA, mulI, absD, intD, max2D, min2D, max3D, min3D, isND, notND, dRaise, dDict, okP, flp, sq_tIs, sq_fIs, sq_tT, sq_lT, sq_tB, sq_lB, isq_tIs, isq_fIs, isq_tT, isq_lT, isq_tB, isq_lB, len_tIs, len_fIs, len_tT, len_lT, len_tB, len_lB, en_tIs, en_fIs, en_tT, en_lT, en_tB, en_lB, tup_tIs, tup_fIs, tup_tT, tup_lT, tup_tB, tup_lB, lst_tIs, lst_fIs, lst_tT, lst_lT, lst_tB, lst_lB, Tg_0, Tg_1, f_tIs, f_fIs, f_tT, f_lT, f_tB, f_lB, List.getElem?_set, List.getElem?_cons_zero, List.getElem?_cons_succ, List.getElem?_nil, sq_tup, sq_lst, isq_tup, isq_lst, len_tup, len_lst, add_int, le_int, lt_int, ge_int, gt_int, vals_c1, vals_c0, vals_st1, vals_st0, any_bl, all_bl, ix_t0, ix_t1, ix_t2, -getElem?_pos, m0, m5, m6, ixi_tIs h0 (show x.1 < L.length by omega)]
      · simp [cfOf, startE, fin_, outsOf, retag, findTag, dRet, dSeq, dEnd, dNever, dIte, dIf, dDrop, dFld, dSet, toB, dC, dName, dBl, dNot, dAnd, dOr, tAndD, tOrD, tNotD, dTru, dBoolC, boolD, dIsi, dIsi2, dIsC, tyN, isN, d2, d3, oV, oPl, aNil, aCons, aStar, argB, argsB, ownPl, nodupB, wb, wb1, dCall, dMeth, oMake, oMake0, dSetFld, res, resAll, bV_val, bV_own, tD_lst, tD_ins, vals, dL, dLV, dTup, dLst, oLst, sz, ofO, i0D, iD, truD, dFz, R.bind, dAsg, gTp, gsCons, gsNil, gNm, dPar, setAll, dAug, dSetIx, isOwn, dApp, dFor, iVals, iRes, iSeq, dSl, pNo, pSome, dNeg, fdivD, modD, powD, mulA, mulI, absD, intD, max2D, min2D, max3D, min3D, isND, notND, dRaise, dDict, okP, flp, sq_tIs, sq_fIs, sq_tT, sq_lT, sq_tB, sq_lB, isq_tIs, isq_fIs, isq_tT, isq_lT, isq_tB, isq_lB, len_tIs, len_fIs, len_tT, len_lT, len_tB, len_lB, en_tIs, en_fIs, en_tT, en_lT, en_tB, en_lB, tup_tIs, tup_fIs, tup_tT, tup_lT, tup_tB, tup_lB, lst_tIs, lst_fIs, lst_tT, lst_lT, lst_tB, lst_lB, Tg_0, Tg_1, f_tIs, f_fIs, f_tT, f_lT, f_tB, f_lB, List.getElem?_set, List.getElem?_cons_zero, List.getElem?_cons_succ, List.getElem?_nil, sq_tup, sq_lst, isq_tup, isq_lst, len_tup, len_lst, add_int, le_int, lt_int, ge_int, gt_int, vals_c1, vals_c0, vals_st1, vals_st0, any_bl, all_bl, ix_t0, ix_t1, ix_t2, -getElem?_pos, m1, m8, hMl]
      · unfold late
        cases hz : (idx (C.take k) x).getLast? with
        | none =>
          have he : idx (C.take k) x = [] := List.getLast?_eq_none_iff.mp hz
          rw [he] at hn
          simp [cfOf, startE, fin_, outsOf, retag, findTag, dRet, dSeq, dEnd, dNever, dIte, dIf, dDrop, dFld, dSet, toB, dC, dName, dBl, dNot, dAnd, dOr, tAndD, tOrD, tNotD, dTru, dBoolC, boolD, dIsi, dIsi2, dIsC, tyN, isN, d2, d3, oV, oPl, aNil, aCons, aStar, argB, argsB, ownPl, nodupB, wb, wb1, dCall, dMeth, oMake, oMake0, dSetFld, res, resAll, bV_val, bV_own, tD_lst, tD_ins, vals, dL, dLV, dTup, dLst, oLst, sz, ofO, i0D, iD, truD, dFz, R.bind, dAsg, gTp, gsCons, gsNil, gNm, dPar, setAll, dAug, dSetIx, isOwn, dApp, dFor, iVals, iRes, iSeq, dSl, pNo, pSome, dNeg, fdivD, modD, powD, mulA, mulI, absD, intD, max2D, min2D, max3D, min3D, isND, notND, dRaise, dDict, okP, flp, sq_tIs, sq_fIs, sq_tT, sq_lT, sq_tB, sq_lB, isq_tIs, isq_fIs, isq_tT, isq_lT, isq_tB, isq_lB, len_tIs, len_fIs, len_tT, len_lT, len_tB, len_lB, en_tIs, en_fIs, en_tT, en_lT, en_tB, en_lB, tup_tIs, tup_fIs, tup_tT, tup_lT, tup_tB, tup_lB, lst_tIs, lst_fIs, lst_tT, lst_lT, lst_tB, lst_lB, Tg_0, Tg_1, f_tIs, f_fIs, f_tT, f_lT, f_tB, f_lB, List.getElem?_set, List.getElem?_cons_zero, List.getElem?_cons_succ, List.getElem?_nil, sq_tup, sq_lst, isq_tup, isq_lst, len_tup, len_lst, add_int, le_int, lt_int, ge_int, gt_int, vals_c1, vals_c0, vals_st1, vals_st0, any_bl, all_bl, ix_t0, ix_t1, ix_t2, -getElem?_pos, m8, hn]
        | some z =>
          have he : idx (C.take k) x ≠ [] := fun e => by rw [e] at hz; cases hz
          have hx := hx1 z hz
          simp only [he, decide_false, Bool.not_false] at hn
          simp [cfOf, startE, fin_, outsOf, retag, findTag, dRet, dSeq, dEnd, dNever, dIte, dIf, dDrop, dFld, dSet, toB, dC, dName, dBl, dNot, dAnd, dOr, tAndD, tOrD, tNotD, dTru, dBoolC, boolD, dIsi, dIsi2, dIsC, tyN, isN, d2, d3, oV, oPl, aNil, aCons, aStar, argB, argsB, ownPl, nodupB, wb, wb1, dCall, dMeth, oMake, oMake0, dSetFld, res, resAll, bV_val, bV_own, tD_lst, tD_ins, vals, dL, dLV, dTup, dLst, oLst, sz, ofO, i0D, iD, truD, dFz, R.bind, dAsg, gTp, gsCons, gsNil, gNm, dPar, setAll, dAug, dSetIx, isOwn, dApp, dFor, iVals, iRes, iSeq, dSl, pNo, pSome, dNeg, fdivD, modD, powD, mulA, mulI, absD, intD, max2D, min2D, max3D, min3D, isND, notND, dRaise, dDict, okP, flp, sq_tIs, sq_fIs, sq_tT, sq_lT, sq_tB, sq_lB, isq_tIs, isq_fIs, isq_tT, isq_lT, isq_tB, isq_lB, len_tIs, len_fIs, len_tT, len_lT, len_tB, len_lB, en_tIs, en_fIs, en_tT, en_lT, en_tB, en_lB, tup_tIs, tup_fIs, tup_tT, tup_lT, tup_tB, tup_lB, lst_tIs, lst_fIs, lst_tT, lst_lT, lst_tB, lst_lB, Tg_0, Tg_1, f_tIs, f_fIs, f_tT, f_lT, f_tB, f_lB, List.getElem?_set, List.getElem?_cons_zero, List.getElem?_cons_succ, List.getElem?_nil, sq_tup, sq_lst, isq_tup, isq_lst, len_tup, len_lst, add_int, le_int, lt_int, ge_int, gt_int, vals_c1, vals_c0, vals_st1, vals_st0, any_bl, all_bl, ix_t0, ix_t1, ix_t2, -getElem?_pos, m2, m4, m8, hn, hx, hp]
    · refine tand_b _ _ ?_ fun hA => ?_
      · simp [cfOf, startE, fin_, outsOf, retag, findTag, dRet, dSeq, dEnd, dNever, dIte, dIf, dDrop, dFld, dSet, toB, dC, dName, dBl, dNot, dAnd, dOr, tAndD, tOrD, tNotD, dTru, dBoolC, boolD, dIsi, dIsi2, dIsC, tyN, isN, d2, d3, oV, oPl, aNil, aCons, aStar, argB, argsB, ownPl, nodupB, wb, wb1, dCall, dMeth, oMake, oMake0, dSetFld, res, resAll, bV_val, bV_own, tD_lst, tD_ins, vals, dL, dLV, dTup, dLst, oLst, sz, ofO, i0D, iD, truD, dFz, R.bind, dAsg, gTp, gsCons, gsNil, gNm, dPar, setAll, dAug, dSetIx, isOwn, dApp, dFor, iVals, iRes, iSeq, dSl, pNo, pSome, dNeg, fdivD, modD, powD, mulA, mulI, absD, intD, max2D, min2D, max3D, min3D, isND, notND, dRaise, dDict, okP, flp, sq_tIs, sq_fIs, sq_tT, sq_lT, sq_tB, sq_lB, isq_tIs, isq_fIs, isq_tT, isq_lT, isq_tB, isq_lB, len_tIs, len_fIs, len_tT, len_lT, len_tB, len_lB, en_tIs, en_fIs, en_tT, en_lT, en_tB, en_lB, tup_tIs, tup_fIs, tup_tT, tup_lT, tup_tB, tup_lB, lst_tIs, lst_fIs, lst_tT, lst_lT, lst_tB, lst_lB, Tg_0, Tg_1, f_tIs, f_fIs, f_tT, f_lT, f_tB, f_lB, List.getElem?_set, List.getElem?_cons_zero, List.getElem?_cons_succ, List.getElem?_nil, sq_tup, sq_lst, isq_tup, isq_lst, len_tup, len_lst, add_int, le_int, lt_int, ge_int, gt_int, vals_c1, vals_c0, vals_st1, vals_st0, any_bl, all_bl, ix_t0, ix_t1, ix_t2, -getElem?_pos, m6]
      · simp [cfOf, startE, fin_, outsOf, retag, findTag, dRet, dSeq, dEnd, dNever, dIte, dIf, dDrop, dFld, dSet, toB, dC, dName, dBl, dNot, dAnd, dOr, tAndD, tOrD, tNotD, dTru, dBoolC, boolD, dIsi, dIsi2, dIsC, tyN, isN, d2, d3, oV, oPl, aNil, aCons, aStar, argB, argsB, ownPl, nodupB, wb, wb1, dCall, dMeth, oMake, oMake0, dSetFld, res, resAll, bV_val, bV_own, tD_lst, tD_ins, vals, dL, dLV, dTup, dLst, oLst, sz, ofO, i0D, iD, truD, dFz, R.bind, dAsg, gTp, gsCons, gsNil, gNm, dPar, setAll, dAug, dSetIx, isOwn, dApp, dFor, iVals, iRes, iSeq, dSl, pNo, pSome, dNeg, fdivD, modD, powD, mulA, mulI, absD, intD, max2D, min2D, max3D, min3D, isND, notND, dRaise, dDict, okP, flp, sq_tIs, sq_fIs, sq_tT, sq_lT, sq_tB, sq_lB, isq_tIs, isq_fIs, isq_tT, isq_lT, isq_tB, isq_lB, len_tIs, len_fIs, len_tT, len_lT, len_tB, len_lB, en_tIs, en_fIs, en_tT, en_lT, en_tB, en_lB, tup_tIs, tup_fIs, tup_tT, tup_lT, tup_tB, tup_lB, lst_tIs, lst_fIs, lst_tT, lst_lT, lst_tB, lst_lB, Tg_0, Tg_1, f_tIs, f_fIs, f_tT, f_lT, f_tB, f_lB, List.getElem?_set, List.getElem?_cons_zero, List.getElem?_cons_succ, List.getElem?_nil, sq_tup, sq_lst, isq_tup, isq_lst, len_tup, len_lst, add_int, le_int, lt_int, ge_int, gt_int, vals_c1, vals_c0, vals_st1, vals_st0, any_bl, all_bl, ix_t0, ix_t1, ix_t2, -getElem?_pos, m3, m4, m5, m6, mk_Tg, in_tT, hpre]
  obtain ⟨k1, k2⟩ := key _ rfl
  have e1 : dSet 8 lcL ρ = .ok (ρ.set 8 (some (.own 0 (.lst M))), .nx) := by
    simp [dSet, q, R.bind, toB]
  unfold lcBody
  rw [seq_nx e1]
  unfold can1
  generalize ρ.set 8 (some (.own 0 (.lst M))) = μ at *
  generalize badA L t (C.take k) x = b1 at *
  generalize badB (C.take k) x = b2 at *
  generalize late g (C.take k) x = b3 at *
  generalize lcA = a1 at *
  generalize lcB = a2 at *
  cases b1 <;> cases b2 <;> cases b3 <;> simp at k1 <;> simp [dSeq, dIte, k1, k2, R.bind, dRet, dC, dEnd]
theorem f_law_can {L : List Int} {t g : Int} {C : List Pt} (h : ∀ p ∈ C, 0 ≤ p.1) (hC : C.length ≤ 1000) : F__law_can [.val (tIs L), iv t, iv g, .val (tT C)] = .ok [none, none, none, none] (.bl (canA L t g C)) := by
  obtain ⟨ρ', _, h2⟩ := fl_find (g := gTp (gsCons (gNm 4) (gsCons (gTp (gsCons (gNm 5) (gsCons (gNm 6) gsNil))) gsNil))) (body := lcBody) (fun q : Nat × Pt => .tup [.int q.1, Tg q.2]) (fun q => !can1 L t g (C.take q.1) q.2) (fun _ => .bl false)
    (fun ρ => ρ.length = 9 ∧ noOwn ρ [7] = true ∧ ρ[0]? = some (sv (tIs L)) ∧ ρ[1]? = some (some (iv t)) ∧ ρ[2]? = some (some (iv g)) ∧ ρ[3]? = some (sv (tT C))) (enL 0 C) (fun q hq ρ hI => by
      obtain ⟨gl, gn, g0, g1, g2, g3⟩ := hI
      obtain ⟨k, x⟩ := q
      have hk : k < C.length := enL_in hq
      have hx : 0 ≤ x.1 := by
        obtain ⟨i, _, hi⟩ := enL_mem hq
        exact h x (List.mem_of_getElem? hi)
      have hb := lc_body (L := L) (t := t) (g := g) (C := C) (k := k) (x := x) (ρ := ((ρ.set 4 (sv (.int k))).set 5 (some (iv x.1))).set 6 (some (iv x.2))) hx hC hk (by simp [gl]) (noOwn_set rfl (noOwn_set rfl (noOwn_set rfl gn))) (by simp [cfOf, startE, fin_, outsOf, retag, findTag, dRet, dSeq, dEnd, dNever, dIte, dIf, dDrop, dFld, dSet, toB, dC, dName, dBl, dNot, dAnd, dOr, tAndD, tOrD, tNotD, dTru, dBoolC, boolD, dIsi, dIsi2, dIsC, tyN, isN, d2, d3, oV, oPl, aNil, aCons, aStar, argB, argsB, ownPl, nodupB, wb, wb1, dCall, dMeth, oMake, oMake0, dSetFld, res, resAll, bV_val, bV_own, tD_lst, tD_ins, vals, dL, dLV, dTup, dLst, oLst, sz, ofO, i0D, iD, truD, dFz, R.bind, dAsg, gTp, gsCons, gsNil, gNm, dPar, setAll, dAug, dSetIx, isOwn, dApp, dFor, iVals, iRes, iSeq, dSl, pNo, pSome, dNeg, fdivD, modD, powD, mulA, mulI, absD, intD, max2D, min2D, max3D, min3D, isND, notND, dRaise, dDict, okP, flp, sq_tIs, sq_fIs, sq_tT, sq_lT, sq_tB, sq_lB, isq_tIs, isq_fIs, isq_tT, isq_lT, isq_tB, isq_lB, len_tIs, len_fIs, len_tT, len_lT, len_tB, len_lB, en_tIs, en_fIs, en_tT, en_lT, en_tB, en_lB, tup_tIs, tup_fIs, tup_tT, tup_lT, tup_tB, tup_lB, lst_tIs, lst_fIs, lst_tT, lst_lT, lst_tB, lst_lB, Tg_0, Tg_1, f_tIs, f_fIs, f_tT, f_lT, f_tB, f_lB, List.getElem?_set, List.getElem?_cons_zero, List.getElem?_cons_succ, List.getElem?_nil, sq_tup, sq_lst, isq_tup, isq_lst, len_tup, len_lst, add_int, le_int, lt_int, ge_int, gt_int, vals_c1, vals_c0, vals_st1, vals_st0, any_bl, all_bl, ix_t0, ix_t1, ix_t2, -getElem?_pos, g0]) (by simp [cfOf, startE, fin_, outsOf, retag, findTag, dRet, dSeq, dEnd, dNever, dIte, dIf, dDrop, dFld, dSet, toB, dC, dName, dBl, dNot, dAnd, dOr, tAndD, tOrD, tNotD, dTru, dBoolC, boolD, dIsi, dIsi2, dIsC, tyN, isN, d2, d3, oV, oPl, aNil, aCons, aStar, argB, argsB, ownPl, nodupB, wb, wb1, dCall, dMeth, oMake, oMake0, dSetFld, res, resAll, bV_val, bV_own, tD_lst, tD_ins, vals, dL, dLV, dTup, dLst, oLst, sz, ofO, i0D, iD, truD, dFz, R.bind, dAsg, gTp, gsCons, gsNil, gNm, dPar, setAll, dAug, dSetIx, isOwn, dApp, dFor, iVals, iRes, iSeq, dSl, pNo, pSome, dNeg, fdivD, modD, powD, mulA, mulI, absD, intD, max2D, min2D, max3D, min3D, isND, notND, dRaise, dDict, okP, flp, sq_tIs, sq_fIs, sq_tT, sq_lT, sq_tB, sq_lB, isq_tIs, isq_fIs, isq_tT, isq_lT, isq_tB, isq_lB, len_tIs, len_fIs, len_tT, len_lT, len_tB, len_lB, en_tIs, en_fIs, en_tT, en_lT, en_tB, en_lB, tup_tIs, tup_fIs, tup_tT, tup_lT, tup_tB, tup_lB, lst_tIs, lst_fIs, lst_tT, lst_lT, lst_tB, lst_lB, Tg_0, Tg_1, f_tIs, f_fIs, f_tT, f_lT, f_tB, f_lB, List.getElem?_set, List.getElem?_cons_zero, List.getElem?_cons_succ, List.getElem?_nil, sq_tup, sq_lst, isq_tup, isq_lst, len_tup, len_lst, add_int, le_int, lt_int, ge_int, gt_int, vals_c1, vals_c0, vals_st1, vals_st0, any_bl, all_bl, ix_t0, ix_t1, ix_t2, -getElem?_pos, g1]) (by simp [cfOf, startE, fin_, outsOf, retag, findTag, dRet, dSeq, dEnd, dNever, dIte, dIf, dDrop, dFld, dSet, toB, dC, dName, dBl, dNot, dAnd, dOr, tAndD, tOrD, tNotD, dTru, dBoolC, boolD, dIsi, dIsi2, dIsC, tyN, isN, d2, d3, oV, oPl, aNil, aCons, aStar, argB, argsB, ownPl, nodupB, wb, wb1, dCall, dMeth, oMake, oMake0, dSetFld, res, resAll, bV_val, bV_own, tD_lst, tD_ins, vals, dL, dLV, dTup, dLst, oLst, sz, ofO, i0D, iD, truD, dFz, R.bind, dAsg, gTp, gsCons, gsNil, gNm, dPar, setAll, dAug, dSetIx, isOwn, dApp, dFor, iVals, iRes, iSeq, dSl, pNo, pSome, dNeg, fdivD, modD, powD, mulA, mulI, absD, intD, max2D, min2D, max3D, min3D, isND, notND, dRaise, dDict, okP, flp, sq_tIs, sq_fIs, sq_tT, sq_lT, sq_tB, sq_lB, isq_tIs, isq_fIs, isq_tT, isq_lT, isq_tB, isq_lB, len_tIs, len_fIs, len_tT, len_lT, len_tB, len_lB, en_tIs, en_fIs, en_tT, en_lT, en_tB, en_lB, tup_tIs, tup_fIs, tup_tT, tup_lT, tup_tB, tup_lB, lst_tIs, lst_fIs, lst_tT, lst_lT, lst_tB, lst_lB, Tg_0, Tg_1, f_tIs, f_fIs, f_tT, f_lT, f_tB, f_lB, List.getElem?_set, List.getElem?_cons_zero, List.getElem?_cons_succ, List.getElem?_nil, sq_tup, sq_lst, isq_tup, isq_lst, len_tup, len_lst, add_int, le_int, lt_int, ge_int, gt_int, vals_c1, vals_c0, vals_st1, vals_st0, any_bl, all_bl, ix_t0, ix_t1, ix_t2, -getElem?_pos, g2]) (by simp [cfOf, startE, fin_, outsOf, retag, findTag, dRet, dSeq, dEnd, dNever, dIte, dIf, dDrop, dFld, dSet, toB, dC, dName, dBl, dNot, dAnd, dOr, tAndD, tOrD, tNotD, dTru, dBoolC, boolD, dIsi, dIsi2, dIsC, tyN, isN, d2, d3, oV, oPl, aNil, aCons, aStar, argB, argsB, ownPl, nodupB, wb, wb1, dCall, dMeth, oMake, oMake0, dSetFld, res, resAll, bV_val, bV_own, tD_lst, tD_ins, vals, dL, dLV, dTup, dLst, oLst, sz, ofO, i0D, iD, truD, dFz, R.bind, dAsg, gTp, gsCons, gsNil, gNm, dPar, setAll, dAug, dSetIx, isOwn, dApp, dFor, iVals, iRes, iSeq, dSl, pNo, pSome, dNeg, fdivD, modD, powD, mulA, mulI, absD, intD, max2D, min2D, max3D, min3D, isND, notND, dRaise, dDict, okP, flp, sq_tIs, sq_fIs, sq_tT, sq_lT, sq_tB, sq_lB, isq_tIs, isq_fIs, isq_tT, isq_lT, isq_tB, isq_lB, len_tIs, len_fIs, len_tT, len_lT, len_tB, len_lB, en_tIs, en_fIs, en_tT, en_lT, en_tB, en_lB, tup_tIs, tup_fIs, tup_tT, tup_lT, tup_tB, tup_lB, lst_tIs, lst_fIs, lst_tT, lst_lT, lst_tB, lst_lB, Tg_0, Tg_1, f_tIs, f_fIs, f_tT, f_lT, f_tB, f_lB, List.getElem?_set, List.getElem?_cons_zero, List.getElem?_cons_succ, List.getElem?_nil, sq_tup, sq_lst, isq_tup, isq_lst, len_tup, len_lst, add_int, le_int, lt_int, ge_int, gt_int, vals_c1, vals_c0, vals_st1, vals_st0, any_bl, all_bl, ix_t0, ix_t1, ix_t2, -getElem?_pos, g3]) (by simp [cfOf, startE, fin_, outsOf, retag, findTag, dRet, dSeq, dEnd, dNever, dIte, dIf, dDrop, dFld, dSet, toB, dC, dName, dBl, dNot, dAnd, dOr, tAndD, tOrD, tNotD, dTru, dBoolC, boolD, dIsi, dIsi2, dIsC, tyN, isN, d2, d3, oV, oPl, aNil, aCons, aStar, argB, argsB, ownPl, nodupB, wb, wb1, dCall, dMeth, oMake, oMake0, dSetFld, res, resAll, bV_val, bV_own, tD_lst, tD_ins, vals, dL, dLV, dTup, dLst, oLst, sz, ofO, i0D, iD, truD, dFz, R.bind, dAsg, gTp, gsCons, gsNil, gNm, dPar, setAll, dAug, dSetIx, isOwn, dApp, dFor, iVals, iRes, iSeq, dSl, pNo, pSome, dNeg, fdivD, modD, powD, mulA, mulI, absD, intD, max2D, min2D, max3D, min3D, isND, notND, dRaise, dDict, okP, flp, sq_tIs, sq_fIs, sq_tT, sq_lT, sq_tB, sq_lB, isq_tIs, isq_fIs, isq_tT, isq_lT, isq_tB, isq_lB, len_tIs, len_fIs, len_tT, len_lT, len_tB, len_lB, en_tIs, en_fIs, en_tT, en_lT, en_tB, en_lB, tup_tIs, tup_fIs, tup_tT, tup_lT, tup_tB, tup_lB, lst_tIs, lst_fIs, lst_tT, lst_lT, lst_tB, lst_lB, Tg_0, Tg_1, f_tIs, f_fIs, f_tT, f_lT, f_tB, f_lB, List.getElem?_set, List.getElem?_cons_zero, List.getElem?_cons_succ, List.getElem?_nil, sq_tup, sq_lst, isq_tup, isq_lst, len_tup, len_lst, add_int, le_int, lt_int, ge_int, gt_int, vals_c1, vals_c0, vals_st1, vals_st0, any_bl, all_bl, ix_t0, ix_t1, ix_t2, -getElem?_pos, gl]) (by simp [cfOf, startE, fin_, outsOf, retag, findTag, dRet, dSeq, dEnd, dNever, dIte, dIf, dDrop, dFld, dSet, toB, dC, dName, dBl, dNot, dAnd, dOr, tAndD, tOrD, tNotD, dTru, dBoolC, boolD, dIsi, dIsi2, dIsC, tyN, isN, d2, d3, oV, oPl, aNil, aCons, aStar, argB, argsB, ownPl, nodupB, wb, wb1, dCall, dMeth, oMake, oMake0, dSetFld, res, resAll, bV_val, bV_own, tD_lst, tD_ins, vals, dL, dLV, dTup, dLst, oLst, sz, ofO, i0D, iD, truD, dFz, R.bind, dAsg, gTp, gsCons, gsNil, gNm, dPar, setAll, dAug, dSetIx, isOwn, dApp, dFor, iVals, iRes, iSeq, dSl, pNo, pSome, dNeg, fdivD, modD, powD, mulA, mulI, absD, intD, max2D, min2D, max3D, min3D, isND, notND, dRaise, dDict, okP, flp, sq_tIs, sq_fIs, sq_tT, sq_lT, sq_tB, sq_lB, isq_tIs, isq_fIs, isq_tT, isq_lT, isq_tB, isq_lB, len_tIs, len_fIs, len_tT, len_lT, len_tB, len_lB, en_tIs, en_fIs, en_tT, en_lT, en_tB, en_lB, tup_tIs, tup_fIs, tup_tT, tup_lT, tup_tB, tup_lB, lst_tIs, lst_fIs, lst_tT, lst_lT, lst_tB, lst_lB, Tg_0, Tg_1, f_tIs, f_fIs, f_tT, f_lT, f_tB, f_lB, List.getElem?_set, List.getElem?_cons_zero, List.getElem?_cons_succ, List.getElem?_nil, sq_tup, sq_lst, isq_tup, isq_lst, len_tup, len_lst, add_int, le_int, lt_int, ge_int, gt_int, vals_c1, vals_c0, vals_st1, vals_st0, any_bl, all_bl, ix_t0, ix_t1, ix_t2, -getElem?_pos, gl]) (by simp [cfOf, startE, fin_, outsOf, retag, findTag, dRet, dSeq, dEnd, dNever, dIte, dIf, dDrop, dFld, dSet, toB, dC, dName, dBl, dNot, dAnd, dOr, tAndD, tOrD, tNotD, dTru, dBoolC, boolD, dIsi, dIsi2, dIsC, tyN, isN, d2, d3, oV, oPl, aNil, aCons, aStar, argB, argsB, ownPl, nodupB, wb, wb1, dCall, dMeth, oMake, oMake0, dSetFld, res, resAll, bV_val, bV_own, tD_lst, tD_ins, vals, dL, dLV, dTup, dLst, oLst, sz, ofO, i0D, iD, truD, dFz, R.bind, dAsg, gTp, gsCons, gsNil, gNm, dPar, setAll, dAug, dSetIx, isOwn, dApp, dFor, iVals, iRes, iSeq, dSl, pNo, pSome, dNeg, fdivD, modD, powD, mulA, mulI, absD, intD, max2D, min2D, max3D, min3D, isND, notND, dRaise, dDict, okP, flp, sq_tIs, sq_fIs, sq_tT, sq_lT, sq_tB, sq_lB, isq_tIs, isq_fIs, isq_tT, isq_lT, isq_tB, isq_lB, len_tIs, len_fIs, len_tT, len_lT, len_tB, len_lB, en_tIs, en_fIs, en_tT, en_lT, en_tB, en_lB, tup_tIs, tup_fIs, tup_tT, tup_lT, tup_tB, tup_lB, lst_tIs, lst_fIs, lst_tT, lst_lT, lst_tB, lst_lB, Tg_0, Tg_1, f_tIs, f_fIs, f_tT, f_lT, f_tB, f_lB, List.getElem?_set, List.getElem?_cons_zero, List.getElem?_cons_succ, List.getElem?_nil, sq_tup, sq_lst, isq_tup, isq_lst, len_tup, len_lst, add_int, le_int, lt_int, ge_int, gt_int, vals_c1, vals_c0, vals_st1, vals_st0, any_bl, all_bl, ix_t0, ix_t1, ix_t2, -getElem?_pos, gl])
      exact ⟨_, _, rfl, ⟨by simp [gl], noOwn_keep (by decide) (noOwn_set rfl (noOwn_set rfl (noOwn_set rfl gn))), by simp [cfOf, startE, fin_, outsOf, retag, findTag, dRet, dSeq, dEnd, dNever, dIte, dIf, dDrop, dFld, dSet, toB, dC, dName, dBl, dNot, dAnd, dOr, tAndD, tOrD, tNotD, dTru, dBoolC, boolD, dIsi, dIsi2, dIsC, tyN, isN, d2, d3, oV, oPl, aNil, aCons, aStar, argB, argsB, ownPl, nodupB, wb, wb1, dCall, dMeth, oMake, oMake0, dSetFld, res, resAll, bV_val, bV_own, tD_lst, tD_ins, vals, dL, dLV, dTup, dLst, oLst, sz, ofO, i0D, iD, truD, dFz, R.bind, dAsg, gTp, gsCons, gsNil, gNm, dPar, setAll, dAug, dSetIx, isOwn, dApp, dFor, iVals, iRes, iSeq, dSl, pNo, pSome, dNeg, fdivD, modD, powD, mulA, mulI, absD, intD, max2D, min2D, max3D, min3D, isND, notND, dRaise, dDict, okP, flp, sq_tIs, sq_fIs, sq_tT, sq_lT, sq_tB, sq_lB, isq_tIs, isq_fIs, isq_tT, isq_lT, isq_tB, isq_lB, len_tIs, len_fIs, len_tT, len_lT, len_tB, len_lB, en_tIs, en_fIs, en_tT, en_lT, en_tB, en_lB, tup_tIs, tup_fIs, tup_tT, tup_lT, tup_tB, tup_lB, lst_tIs, lst_fIs, lst_tT, lst_lT, lst_tB, lst_lB, Tg_0, Tg_1, f_tIs, f_fIs, f_tT, f_lT, f_tB, f_lB, List.getElem?_set, List.getElem?_cons_zero, List.getElem?_cons_succ, List.getElem?_nil, sq_tup, sq_lst, isq_tup, isq_lst, len_tup, len_lst, add_int, le_int, lt_int, ge_int, gt_int, vals_c1, vals_c0, vals_st1, vals_st0, any_bl, all_bl, ix_t0, ix_t1, ix_t2, -getElem?_pos, g0], by simp [cfOf, startE, fin_, outsOf, retag, findTag, dRet, dSeq, dEnd, dNever, dIte, dIf, dDrop, dFld, dSet, toB, dC, dName, dBl, dNot, dAnd, dOr, tAndD, tOrD, tNotD, dTru, dBoolC, boolD, dIsi, dIsi2, dIsC, tyN, isN, d2, d3, oV, oPl, aNil, aCons, aStar, argB, argsB, ownPl, nodupB, wb, wb1, dCall, dMeth, oMake, oMake0, dSetFld, res, resAll, bV_val, bV_own, tD_lst, tD_ins, vals, dL, dLV, dTup, dLst, oLst, sz, ofO, i0D, iD, truD, dFz, R.bind, dAsg, gTp, gsCons, gsNil, gNm, dPar, setAll, dAug, dSetIx, isOwn, dApp, dFor, iVals, iRes, iSeq, dSl, pNo, pSome, dNeg, fdivD, modD, powD, mulA, mulI, absD, intD, max2D, min2D, max3D, min3D, isND, notND, dRaise, dDict, okP, flp, sq_tIs, sq_fIs, sq_tT, sq_lT, sq_tB, sq_lB, isq_tIs, isq_fIs, isq_tT, isq_lT, isq_tB, isq_lB, len_tIs, len_fIs, len_tT, len_lT, len_tB, len_lB, en_tIs, en_fIs, en_tT, en_lT, en_tB, en_lB, tup_tIs, tup_fIs, tup_tT, tup_lT, tup_tB, tup_lB, lst_tIs, lst_fIs, lst_tT, lst_lT, lst_tB, lst_lB, Tg_0, Tg_1, f_tIs, f_fIs, f_tT, f_lT, f_tB, f_lB, List.getElem?_set, List.getElem?_cons_zero, List.getElem?_cons_succ, List.getElem?_nil, sq_tup, sq_lst, isq_tup, isq_lst, len_tup, len_lst, add_int, le_int, lt_int, ge_int, gt_int, vals_c1, vals_c0, vals_st1, vals_st0, any_bl, all_bl, ix_t0, ix_t1, ix_t2, -getElem?_pos, g1], by simp [cfOf, startE, fin_, outsOf, retag, findTag, dRet, dSeq, dEnd, dNever, dIte, dIf, dDrop, dFld, dSet, toB, dC, dName, dBl, dNot, dAnd, dOr, tAndD, tOrD, tNotD, dTru, dBoolC, boolD, dIsi, dIsi2, dIsC, tyN, isN, d2, d3, oV, oPl, aNil, aCons, aStar, argB, argsB, ownPl, nodupB, wb, wb1, dCall, dMeth, oMake, oMake0, dSetFld, res, resAll, bV_val, bV_own, tD_lst, tD_ins, vals, dL, dLV, dTup, dLst, oLst, sz, ofO, i0D, iD, truD, dFz, R.bind, dAsg, gTp, gsCons, gsNil, gNm, dPar, setAll, dAug, dSetIx, isOwn, dApp, dFor, iVals, iRes, iSeq, dSl, pNo, pSome, dNeg, fdivD, modD, powD, mulA, mulI, absD, intD, max2D, min2D, max3D, min3D, isND, notND, dRaise, dDict, okP, flp, sq_tIs, sq_fIs, sq_tT, sq_lT, sq_tB, sq_lB, isq_tIs, isq_fIs, isq_tT, isq_lT, isq_tB, isq_lB, len_tIs, len_fIs, len_tT, len_lT, len_tB, len_lB, en_tIs, en_fIs, en_tT, en_lT, en_tB, en_lB, tup_tIs, tup_fIs, tup_tT, tup_lT, tup_tB, tup_lB, lst_tIs, lst_fIs, lst_tT, lst_lT, lst_tB, lst_lB, Tg_0, Tg_1, f_tIs, f_fIs, f_tT, f_lT, f_tB, f_lB, List.getElem?_set, List.getElem?_cons_zero, List.getElem?_cons_succ, List.getElem?_nil, sq_tup, sq_lst, isq_tup, isq_lst, len_tup, len_lst, add_int, le_int, lt_int, ge_int, gt_int, vals_c1, vals_c0, vals_st1, vals_st0, any_bl, all_bl, ix_t0, ix_t1, ix_t2, -getElem?_pos, g2], by simp [cfOf, startE, fin_, outsOf, retag, findTag, dRet, dSeq, dEnd, dNever, dIte, dIf, dDrop, dFld, dSet, toB, dC, dName, dBl, dNot, dAnd, dOr, tAndD, tOrD, tNotD, dTru, dBoolC, boolD, dIsi, dIsi2, dIsC, tyN, isN, d2, d3, oV, oPl, aNil, aCons, aStar, argB, argsB, ownPl, nodupB, wb, wb1, dCall, dMeth, oMake, oMake0, dSetFld, res, resAll, bV_val, bV_own, tD_lst, tD_ins, vals, dL, dLV, dTup, dLst, oLst, sz, ofO, i0D, iD, truD, dFz, R.bind, dAsg, gTp, gsCons, gsNil, gNm, dPar, setAll, dAug, dSetIx, isOwn, dApp, dFor, iVals, iRes, iSeq, dSl, pNo, pSome, dNeg, fdivD, modD, powD, mulA, mulI, absD, intD, max2D, min2D, max3D, min3D, isND, notND, dRaise, dDict, okP, flp, sq_tIs, sq_fIs, sq_tT, sq_lT, sq_tB, sq_lB, isq_tIs, isq_fIs, isq_tT, isq_lT, isq_tB, isq_lB, len_tIs, len_fIs, len_tT, len_lT, len_tB, len_lB, en_tIs, en_fIs, en_tT, en_lT, en_tB, en_lB, tup_tIs, tup_fIs, tup_tT, tup_lT, tup_tB, tup_lB, lst_tIs, lst_fIs, lst_tT, lst_lT, lst_tB, lst_lB, Tg_0, Tg_1, f_tIs, f_fIs, f_tT, f_lT, f_tB, f_lB, List.getElem?_set, List.getElem?_cons_zero, List.getElem?_cons_succ, List.getElem?_nil, sq_tup, sq_lst, isq_tup, isq_lst, len_tup, len_lst, add_int, le_int, lt_int, ge_int, gt_int, vals_c1, vals_c0, vals_st1, vals_st0, any_bl, all_bl, ix_t0, ix_t1, ix_t2, -getElem?_pos, g3]⟩, hb⟩)
    [sv (tIs L), some (iv t), some (iv g), sv (tT C), none, none, none, none, none] ⟨rfl, rfl, rfl, rfl, rfl, rfl⟩
  unfold F__law_can canA
  rw [lc_eq]
  generalize lcBody = B at *
  generalize gTp (gsCons (gNm 4) (gsCons (gTp (gsCons (gNm 5) (gsCons (gNm 6) gsNil))) gsNil)) = G at *
  cases hf : (enL 0 C).find? (fun q => !can1 L t g (C.take q.1) q.2) with
  | none =>
    rw [hf] at h2
    simp [cfOf, startE, fin_, outsOf, retag, findTag, dRet, dSeq, dEnd, dNever, dIte, dIf, dDrop, dFld, dSet, toB, dC, dName, dBl, dNot, dAnd, dOr, tAndD, tOrD, tNotD, dTru, dBoolC, boolD, dIsi, dIsi2, dIsC, tyN, isN, d2, d3, oV, oPl, aNil, aCons, aStar, argB, argsB, ownPl, nodupB, wb, wb1, dCall, dMeth, oMake, oMake0, dSetFld, res, resAll, bV_val, bV_own, tD_lst, tD_ins, vals, dL, dLV, dTup, dLst, oLst, sz, ofO, i0D, iD, truD, dFz, R.bind, dAsg, gTp, gsCons, gsNil, gNm, dPar, setAll, dAug, dSetIx, isOwn, dApp, dFor, iVals, iRes, iSeq, dSl, pNo, pSome, dNeg, fdivD, modD, powD, mulA, mulI, absD, intD, max2D, min2D, max3D, min3D, isND, notND, dRaise, dDict, okP, flp, sq_tIs, sq_fIs, sq_tT, sq_lT, sq_tB, sq_lB, isq_tIs, isq_fIs, isq_tT, isq_lT, isq_tB, isq_lB, len_tIs, len_fIs, len_tT, len_lT, len_tB, len_lB, en_tIs, en_fIs, en_tT, en_lT, en_tB, en_lB, tup_tIs, tup_fIs, tup_tT, tup_lT, tup_tB, tup_lB, lst_tIs, lst_fIs, lst_tT, lst_lT, lst_tB, lst_lB, Tg_0, Tg_1, f_tIs, f_fIs, f_tT, f_lT, f_tB, f_lB, List.getElem?_set, List.getElem?_cons_zero, List.getElem?_cons_succ, List.getElem?_nil, sq_tup, sq_lst, isq_tup, isq_lst, len_tup, len_lst, add_int, le_int, lt_int, ge_int, gt_int, vals_c1, vals_c0, vals_st1, vals_st0, any_bl, all_bl, ix_t0, ix_t1, ix_t2, -getElem?_pos, h2]
  | some q =>
    rw [hf] at h2
    simp [cfOf, startE, fin_, outsOf, retag, findTag, dRet, dSeq, dEnd, dNever, dIte, dIf, dDrop, dFld, dSet, toB, dC, dName, dBl, dNot, dAnd, dOr, tAndD, tOrD, tNotD, dTru, dBoolC, boolD, dIsi, dIsi2, dIsC, tyN, isN, d2, d3, oV, oPl, aNil, aCons, aStar, argB, argsB, ownPl, nodupB, wb, wb1, dCall, dMeth, oMake, oMake0, dSetFld, res, resAll, bV_val, bV_own, tD_lst, tD_ins, vals, dL, dLV, dTup, dLst, oLst, sz, ofO, i0D, iD, truD, dFz, R.bind, dAsg, gTp, gsCons, gsNil, gNm, dPar, setAll, dAug, dSetIx, isOwn, dApp, dFor, iVals, iRes, iSeq, dSl, pNo, pSome, dNeg, fdivD, modD, powD, mulA, mulI, absD, intD, max2D, min2D, max3D, min3D, isND, notND, dRaise, dDict, okP, flp, sq_tIs, sq_fIs, sq_tT, sq_lT, sq_tB, sq_lB, isq_tIs, isq_fIs, isq_tT, isq_lT, isq_tB, isq_lB, len_tIs, len_fIs, len_tT, len_lT, len_tB, len_lB, en_tIs, en_fIs, en_tT, en_lT, en_tB, en_lB, tup_tIs, tup_fIs, tup_tT, tup_lT, tup_tB, tup_lB, lst_tIs, lst_fIs, lst_tT, lst_lT, lst_tB, lst_lB, Tg_0, Tg_1, f_tIs, f_fIs, f_tT, f_lT, f_tB, f_lB, List.getElem?_set, List.getElem?_cons_zero, List.getElem?_cons_succ, List.getElem?_nil, sq_tup, sq_lst, isq_tup, isq_lst, len_tup, len_lst, add_int, le_int, lt_int, ge_int, gt_int, vals_c1, vals_c0, vals_st1, vals_st0, any_bl, all_bl, ix_t0, ix_t1, ix_t2, -getElem?_pos, h2]
def acBody : DSn := (dSeq (dIte (tNotD (dTru M_bool (oV (dCall F_may_come (aCons (oPl 0) (aCons (oPl 1) (aCons (oPl 2) (aCons (oV (dL tupleD (aCons (oPl 4) aNil))) (aCons (oPl 6) aNil))))))))) (dRet (dC (.bl false))) (dEnd .nx))
    (dApp 4 (dName 6)))
theorem f_are_coming {L : List Int} {t g : Int} {C : List Pt} (l1 : 1 ≤ L.length) (l2 : L.length ≤ 4) (hL : ∀ z ∈ L, 0 ≤ z ∧ z ≤ 3) (t1 : 1 ≤ t) (t2 : t ≤ 3) (g1 : 0 ≤ g) (g2 : g ≤ 12) (h : ∀ p ∈ C, TagOk p) (hC : C.length ≤ 24) :
    F_are_coming [.val (tIs L), iv t, iv g, .val (tT C)] = .ok [none, none, none, none] (.bl (canA L t g C)) := by
  have e1 := f_check_crowd l1 l2 hL t1 t2 g1 g2
  have e2 := f_check_comes hC h
  obtain ⟨ρ', h2, _⟩ := fl_enum (g := gTp (gsCons (gNm 5) (gsCons (gNm 6) gsNil))) (body := acBody) (fun q : Nat × Pt => .tup [.int q.1, Tg q.2]) (fun q => !can1 L t g (C.take q.1) q.2) (fun _ => .bl false)
    (fun k ρ => ρ.length = 7 ∧ ρ[0]? = some (sv (tIs L)) ∧ ρ[1]? = some (some (iv t)) ∧ ρ[2]? = some (some (iv g)) ∧ ρ[4]? = some (some (.own 0 (.lst ((C.take k).map Tg))))) C 0 (fun q hq ρ hI => by
      obtain ⟨gl, g0, g1, g2, g4⟩ := hI
      obtain ⟨k, x⟩ := q
      have hk : k < C.length := enL_in hq
      obtain ⟨i, hi, hx⟩ := enL_mem hq
      have hi : k = 0 + i := hi
      have hi : i = k := by omega
      subst hi
      have hx0 : 0 ≤ x.1 := (h x (List.mem_of_getElem? hx)).1
      have hm := f_may_come (L := L) (t := t) (g := g) (pre := C.take i) (p := x) hx0 (by rw [List.length_take]; omega)
      have ht : tupleD [.lst ((C.take i).map Tg)] = some (tT (C.take i)) := rfl
      have hz : ((C.take i).map Tg).length + 1 ≤ 1000000 := by rw [List.length_map, List.length_take]; omega
      have hs : (C.take (i + 1)).map Tg = (C.take i).map Tg ++ [Tg x] := by
        have hx : C[i]? = some x := hx
        rw [List.take_add_one, hx]; simp
      simp only at hs ⊢
      rw [hs]
      generalize (C.take i).map Tg = M at *
      cases hc : can1 L t g (C.take i) x with
      | true =>
        rw [hc] at hm
        refine ⟨(ρ.set 5 (sv (.int i))).set 6 (sv (Tg x)), ((ρ.set 5 (sv (.int i))).set 6 (sv (Tg x))).set 4 (some (.own 0 (.lst (M ++ [Tg x])))), rfl, ?_, fun _ => ⟨by simp [gl], by simp [cfOf, startE, fin_, outsOf, retag, findTag, dRet, dSeq, dEnd, dNever, dIte, dIf, dDrop, dFld, dSet, toB, dC, dName, dBl, dNot, dAnd, dOr, tAndD, tOrD, tNotD, dTru, dBoolC, boolD, dIsi, dIsi2, dIsC, tyN, isN, d2, d3, oV, oPl, aNil, aCons, aStar, argB, argsB, ownPl, nodupB, wb, wb1, dCall, dMeth, oMake, oMake0, dSetFld, res, resAll, bV_val, bV_own, tD_lst, tD_ins, vals, dL, dLV, dTup, dLst, oLst, sz, ofO, i0D, iD, truD, dFz, R.bind, dAsg, gTp, gsCons, gsNil, gNm, dPar, setAll, dAug, dSetIx, isOwn, dApp, dFor, iVals, iRes, iSeq, dSl, pNo, pSome, dNeg, fdivD, modD, powD, mulA, mulI, absD, intD, max2D, min2D, max3D, min3D, isND, notND, dRaise, dDict, okP, flp, sq_tIs, sq_fIs, sq_tT, sq_lT, sq_tB, sq_lB, isq_tIs, isq_fIs, isq_tT, isq_lT, isq_tB, isq_lB, len_tIs, len_fIs, len_tT, len_lT, len_tB, len_lB, en_tIs, en_fIs, en_tT, en_lT, en_tB, en_lB, tup_tIs, tup_fIs, tup_tT, tup_lT, tup_tB, tup_lB, lst_tIs, lst_fIs, lst_tT, lst_lT, lst_tB, lst_lB, Tg_0, Tg_1, f_tIs, f_fIs, f_tT, f_lT, f_tB, f_lB, List.getElem?_set, List.getElem?_cons_zero, List.getElem?_cons_succ, List.getElem?_nil, sq_tup, sq_lst, isq_tup, isq_lst, len_tup, len_lst, add_int, le_int, lt_int, ge_int, gt_int, vals_c1, vals_c0, vals_st1, vals_st0, any_bl, all_bl, ix_t0, ix_t1, ix_t2, -getElem?_pos, g0], by simp [cfOf, startE, fin_, outsOf, retag, findTag, dRet, dSeq, dEnd, dNever, dIte, dIf, dDrop, dFld, dSet, toB, dC, dName, dBl, dNot, dAnd, dOr, tAndD, tOrD, tNotD, dTru, dBoolC, boolD, dIsi, dIsi2, dIsC, tyN, isN, d2, d3, oV, oPl, aNil, aCons, aStar, argB, argsB, ownPl, nodupB, wb, wb1, dCall, dMeth, oMake, oMake0, dSetFld, res, resAll, bV_val, bV_own, tD_lst, tD_ins, vals, dL, dLV, dTup, dLst, oLst, sz, ofO, i0D, iD, truD, dFz, R.bind, dAsg, gTp, gsCons, gsNil, gNm, dPar, setAll, dAug, dSetIx, isOwn, dApp, dFor, iVals, iRes, iSeq, dSl, pNo, pSome, dNeg, fdivD, modD, powD, mulA, mulI, absD, intD, max2D, min2D, max3D, min3D, isND, notND, dRaise, dDict, okP, flp, sq_tIs, sq_fIs, sq_tT, sq_lT, sq_tB, sq_lB, isq_tIs, isq_fIs, isq_tT, isq_lT, isq_tB, isq_lB, len_tIs, len_fIs, len_tT, len_lT, len_tB, len_lB, en_tIs, en_fIs, en_tT, en_lT, en_tB, en_lB, tup_tIs, tup_fIs, tup_tT, tup_lT, tup_tB, tup_lB, lst_tIs, lst_fIs, lst_tT, lst_lT, lst_tB, lst_lB, Tg_0, Tg_1, f_tIs, f_fIs, f_tT, f_lT, f_tB, f_lB, List.getElem?_set, List.getElem?_cons_zero, List.getElem?_cons_succ, List.getElem?_nil, sq_tup, sq_lst, isq_tup, isq_lst, len_tup, len_lst, add_int, le_int, lt_int, ge_int, gt_int, vals_c1, vals_c0, vals_st1, vals_st0, any_bl, all_bl, ix_t0, ix_t1, ix_t2, -getElem?_pos, g1], by simp [cfOf, startE, fin_, outsOf, retag, findTag, dRet, dSeq, dEnd, dNever, dIte, dIf, dDrop, dFld, dSet, toB, dC, dName, dBl, dNot, dAnd, dOr, tAndD, tOrD, tNotD, dTru, dBoolC, boolD, dIsi, dIsi2, dIsC, tyN, isN, d2, d3, oV, oPl, aNil, aCons, aStar, argB, argsB, ownPl, nodupB, wb, wb1, dCall, dMeth, oMake, oMake0, dSetFld, res, resAll, bV_val, bV_own, tD_lst, tD_ins, vals, dL, dLV, dTup, dLst, oLst, sz, ofO, i0D, iD, truD, dFz, R.bind, dAsg, gTp, gsCons, gsNil, gNm, dPar, setAll, dAug, dSetIx, isOwn, dApp, dFor, iVals, iRes, iSeq, dSl, pNo, pSome, dNeg, fdivD, modD, powD, mulA, mulI, absD, intD, max2D, min2D, max3D, min3D, isND, notND, dRaise, dDict, okP, flp, sq_tIs, sq_fIs, sq_tT, sq_lT, sq_tB, sq_lB, isq_tIs, isq_fIs, isq_tT, isq_lT, isq_tB, isq_lB, len_tIs, len_fIs, len_tT, len_lT, len_tB, len_lB, en_tIs, en_fIs, en_tT, en_lT, en_tB, en_lB, tup_tIs, tup_fIs, tup_tT, tup_lT, tup_tB, tup_lB, lst_tIs, lst_fIs, lst_tT, lst_lT, lst_tB, lst_lB, Tg_0, Tg_1, f_tIs, f_fIs, f_tT, f_lT, f_tB, f_lB, List.getElem?_set, List.getElem?_cons_zero, List.getElem?_cons_succ, List.getElem?_nil, sq_tup, sq_lst, isq_tup, isq_lst, len_tup, len_lst, add_int, le_int, lt_int, ge_int, gt_int, vals_c1, vals_c0, vals_st1, vals_st0, any_bl, all_bl, ix_t0, ix_t1, ix_t2, -getElem?_pos, g2], by simp [cfOf, startE, fin_, outsOf, retag, findTag, dRet, dSeq, dEnd, dNever, dIte, dIf, dDrop, dFld, dSet, toB, dC, dName, dBl, dNot, dAnd, dOr, tAndD, tOrD, tNotD, dTru, dBoolC, boolD, dIsi, dIsi2, dIsC, tyN, isN, d2, d3, oV, oPl, aNil, aCons, aStar, argB, argsB, ownPl, nodupB, wb, wb1, dCall, dMeth, oMake, oMake0, dSetFld, res, resAll, bV_val, bV_own, tD_lst, tD_ins, vals, dL, dLV, dTup, dLst, oLst, sz, ofO, i0D, iD, truD, dFz, R.bind, dAsg, gTp, gsCons, gsNil, gNm, dPar, setAll, dAug, dSetIx, isOwn, dApp, dFor, iVals, iRes, iSeq, dSl, pNo, pSome, dNeg, fdivD, modD, powD, mulA, mulI, absD, intD, max2D, min2D, max3D, min3D, isND, notND, dRaise, dDict, okP, flp, sq_tIs, sq_fIs, sq_tT, sq_lT, sq_tB, sq_lB, isq_tIs, isq_fIs, isq_tT, isq_lT, isq_tB, isq_lB, len_tIs, len_fIs, len_tT, len_lT, len_tB, len_lB, en_tIs, en_fIs, en_tT, en_lT, en_tB, en_lB, tup_tIs, tup_fIs, tup_tT, tup_lT, tup_tB, tup_lB, lst_tIs, lst_fIs, lst_tT, lst_lT, lst_tB, lst_lB, Tg_0, Tg_1, f_tIs, f_fIs, f_tT, f_lT, f_tB, f_lB, List.getElem?_set, List.getElem?_cons_zero, List.getElem?_cons_succ, List.getElem?_nil, sq_tup, sq_lst, isq_tup, isq_lst, len_tup, len_lst, add_int, le_int, lt_int, ge_int, gt_int, vals_c1, vals_c0, vals_st1, vals_st0, any_bl, all_bl, ix_t0, ix_t1, ix_t2, -getElem?_pos, gl]⟩⟩
        simp [cfOf, startE, fin_, outsOf, retag, findTag, dRet, dSeq, dEnd, dNever, dIte, dIf, dDrop, dFld, dSet, toB, dC, dName, dBl, dNot, dAnd, dOr, tAndD, tOrD, tNotD, dTru, dBoolC, boolD, dIsi, dIsi2, dIsC, tyN, isN, d2, d3, oV, oPl, aNil, aCons, aStar, argB, argsB, ownPl, nodupB, wb, wb1, dCall, dMeth, oMake, oMake0, dSetFld, res, resAll, bV_val, bV_own, tD_lst, tD_ins, vals, dL, dLV, dTup, dLst, oLst, sz, ofO, i0D, iD, truD, dFz, R.bind, dAsg, gTp, gsCons, gsNil, gNm, dPar, setAll, dAug, dSetIx, isOwn, dApp, dFor, iVals, iRes, iSeq, dSl, pNo, pSome, dNeg, fdivD, modD, powD, mulA, mulI, absD, intD, max2D, min2D, max3D, min3D, isND, notND, dRaise, dDict, okP, flp, sq_tIs, sq_fIs, sq_tT, sq_lT, sq_tB, sq_lB, isq_tIs, isq_fIs, isq_tT, isq_lT, isq_tB, isq_lB, len_tIs, len_fIs, len_tT, len_lT, len_tB, len_lB, en_tIs, en_fIs, en_tT, en_lT, en_tB, en_lB, tup_tIs, tup_fIs, tup_tT, tup_lT, tup_tB, tup_lB, lst_tIs, lst_fIs, lst_tT, lst_lT, lst_tB, lst_lB, Tg_0, Tg_1, f_tIs, f_fIs, f_tT, f_lT, f_tB, f_lB, List.getElem?_set, List.getElem?_cons_zero, List.getElem?_cons_succ, List.getElem?_nil, sq_tup, sq_lst, isq_tup, isq_lst, len_tup, len_lst, add_int, le_int, lt_int, ge_int, gt_int, vals_c1, vals_c0, vals_st1, vals_st0, any_bl, all_bl, ix_t0, ix_t1, ix_t2, -getElem?_pos, acBody, gl, g0, g1, g2, g4, ht, hm, hz]
      | false =>
        rw [hc] at hm
        refine ⟨(ρ.set 5 (sv (.int i))).set 6 (sv (Tg x)), (ρ.set 5 (sv (.int i))).set 6 (sv (Tg x)), rfl, ?_, fun e => by cases e⟩
        simp [cfOf, startE, fin_, outsOf, retag, findTag, dRet, dSeq, dEnd, dNever, dIte, dIf, dDrop, dFld, dSet, toB, dC, dName, dBl, dNot, dAnd, dOr, tAndD, tOrD, tNotD, dTru, dBoolC, boolD, dIsi, dIsi2, dIsC, tyN, isN, d2, d3, oV, oPl, aNil, aCons, aStar, argB, argsB, ownPl, nodupB, wb, wb1, dCall, dMeth, oMake, oMake0, dSetFld, res, resAll, bV_val, bV_own, tD_lst, tD_ins, vals, dL, dLV, dTup, dLst, oLst, sz, ofO, i0D, iD, truD, dFz, R.bind, dAsg, gTp, gsCons, gsNil, gNm, dPar, setAll, dAug, dSetIx, isOwn, dApp, dFor, iVals, iRes, iSeq, dSl, pNo, pSome, dNeg, fdivD, modD, powD, mulA, mulI, absD, intD, max2D, min2D, max3D, min3D, isND, notND, dRaise, dDict, okP, flp, sq_tIs, sq_fIs, sq_tT, sq_lT, sq_tB, sq_lB, isq_tIs, isq_fIs, isq_tT, isq_lT, isq_tB, isq_lB, len_tIs, len_fIs, len_tT, len_lT, len_tB, len_lB, en_tIs, en_fIs, en_tT, en_lT, en_tB, en_lB, tup_tIs, tup_fIs, tup_tT, tup_lT, tup_tB, tup_lB, lst_tIs, lst_fIs, lst_tT, lst_lT, lst_tB, lst_lB, Tg_0, Tg_1, f_tIs, f_fIs, f_tT, f_lT, f_tB, f_lB, List.getElem?_set, List.getElem?_cons_zero, List.getElem?_cons_succ, List.getElem?_nil, sq_tup, sq_lst, isq_tup, isq_lst, len_tup, len_lst, add_int, le_int, lt_int, ge_int, gt_int, vals_c1, vals_c0, vals_st1, vals_st0, any_bl, all_bl, ix_t0, ix_t1, ix_t2, -getElem?_pos, acBody, gl, g0, g1, g2, g4, ht, hm])
    [sv (tIs L), some (iv t), some (iv g), sv (tT C), some (.own 0 (.lst [])), none, none] ⟨rfl, rfl, rfl, rfl, rfl⟩
  unfold F_are_coming D_are_coming canA
  have hb : (dSeq (dIte (tNotD (dTru M_bool (oV (dCall F_may_come (aCons (oPl 0) (aCons (oPl 1) (aCons (oPl 2) (aCons (oV (dL tupleD (aCons (oPl 4) aNil))) (aCons (oPl 6) aNil))))))))) (dRet (dC (.bl false))) (dEnd .nx))
    (dApp 4 (dName 6))) = acBody := rfl
  rw [hb]
  generalize acBody = B at *
  generalize gTp (gsCons (gNm 5) (gsCons (gNm 6) gsNil)) = G at *
  cases hf : (enL 0 C).find? (fun q => !can1 L t g (C.take q.1) q.2) with
  | none =>
    rw [hf] at h2
    simp [cfOf, startE, fin_, outsOf, retag, findTag, dRet, dSeq, dEnd, dNever, dIte, dIf, dDrop, dFld, dSet, toB, dC, dName, dBl, dNot, dAnd, dOr, tAndD, tOrD, tNotD, dTru, dBoolC, boolD, dIsi, dIsi2, dIsC, tyN, isN, d2, d3, oV, oPl, aNil, aCons, aStar, argB, argsB, ownPl, nodupB, wb, wb1, dCall, dMeth, oMake, oMake0, dSetFld, res, resAll, bV_val, bV_own, tD_lst, tD_ins, vals, dL, dLV, dTup, dLst, oLst, sz, ofO, i0D, iD, truD, dFz, R.bind, dAsg, gTp, gsCons, gsNil, gNm, dPar, setAll, dAug, dSetIx, isOwn, dApp, dFor, iVals, iRes, iSeq, dSl, pNo, pSome, dNeg, fdivD, modD, powD, mulA, mulI, absD, intD, max2D, min2D, max3D, min3D, isND, notND, dRaise, dDict, okP, flp, sq_tIs, sq_fIs, sq_tT, sq_lT, sq_tB, sq_lB, isq_tIs, isq_fIs, isq_tT, isq_lT, isq_tB, isq_lB, len_tIs, len_fIs, len_tT, len_lT, len_tB, len_lB, en_tIs, en_fIs, en_tT, en_lT, en_tB, en_lB, tup_tIs, tup_fIs, tup_tT, tup_lT, tup_tB, tup_lB, lst_tIs, lst_fIs, lst_tT, lst_lT, lst_tB, lst_lB, Tg_0, Tg_1, f_tIs, f_fIs, f_tT, f_lT, f_tB, f_lB, List.getElem?_set, List.getElem?_cons_zero, List.getElem?_cons_succ, List.getElem?_nil, sq_tup, sq_lst, isq_tup, isq_lst, len_tup, len_lst, add_int, le_int, lt_int, ge_int, gt_int, vals_c1, vals_c0, vals_st1, vals_st0, any_bl, all_bl, ix_t0, ix_t1, ix_t2, -getElem?_pos, e1, e2, h2]
  | some q =>
    rw [hf] at h2
    simp [cfOf, startE, fin_, outsOf, retag, findTag, dRet, dSeq, dEnd, dNever, dIte, dIf, dDrop, dFld, dSet, toB, dC, dName, dBl, dNot, dAnd, dOr, tAndD, tOrD, tNotD, dTru, dBoolC, boolD, dIsi, dIsi2, dIsC, tyN, isN, d2, d3, oV, oPl, aNil, aCons, aStar, argB, argsB, ownPl, nodupB, wb, wb1, dCall, dMeth, oMake, oMake0, dSetFld, res, resAll, bV_val, bV_own, tD_lst, tD_ins, vals, dL, dLV, dTup, dLst, oLst, sz, ofO, i0D, iD, truD, dFz, R.bind, dAsg, gTp, gsCons, gsNil, gNm, dPar, setAll, dAug, dSetIx, isOwn, dApp, dFor, iVals, iRes, iSeq, dSl, pNo, pSome, dNeg, fdivD, modD, powD, mulA, mulI, absD, intD, max2D, min2D, max3D, min3D, isND, notND, dRaise, dDict, okP, flp, sq_tIs, sq_fIs, sq_tT, sq_lT, sq_tB, sq_lB, isq_tIs, isq_fIs, isq_tT, isq_lT, isq_tB, isq_lB, len_tIs, len_fIs, len_tT, len_lT, len_tB, len_lB, en_tIs, en_fIs, en_tT, en_lT, en_tB, en_lB, tup_tIs, tup_fIs, tup_tT, tup_lT, tup_tB, tup_lB, lst_tIs, lst_fIs, lst_tT, lst_lT, lst_tB, lst_lB, Tg_0, Tg_1, f_tIs, f_fIs, f_tT, f_lT, f_tB, f_lB, List.getElem?_set, List.getElem?_cons_zero, List.getElem?_cons_succ, List.getElem?_nil, sq_tup, sq_lst, isq_tup, isq_lst, len_tup, len_lst, add_int, le_int, lt_int, ge_int, gt_int, vals_c1, vals_c0, vals_st1, vals_st0, any_bl, all_bl, ix_t0, ix_t1, ix_t2, -getElem?_pos, e1, e2, h2]
end A
end
section
namespace A
open PySem Zd
set_option autoImplicit false
theorem st7 {S : List Int} {n : Int} {ρ : Zd.Env} {C : List Pt} (h : LS S n ρ) (h5 : ρ[5]? = some (sv (tT C))) : ∃ (L : List Int) (n' : Int) (ρ' : Zd.Env), 1 ≤ L.length ∧ L.length ≤ 4 ∧ (∀ z ∈ L, 0 ≤ z ∧ z ≤ 3) ∧ LS S n' ρ' ∧ ρ'[5]? = some (sv (tT C)) ∧ ρ'[10]? = some (sv (tIs L)) ∧ S_law_7 ρ = .ok (ρ', .nx) := by
  have hn := h.hn
  have hl := h.len
  obtain ⟨r, r0, r1, hr⟩ := f_next (L := S) (t := 0) (b := 4) hn (by omega)
  have hw := h.draw (n' := n + 1) (by omega)
  obtain ⟨μ, ys, e1, ⟨n', g1, g2⟩, e3, e4⟩ := lcGo_st (vs := [4]) (g := gNm 4) (t := tTrue) (c := dCall F__law_next (aCons (oPl 1) (aCons (oV (dC (.int 4))) aNil)))
    (fun μ => ∃ n, LS S n μ ∧ μ[5]? = some (sv (tT C))) (fun y => ∃ p : Int, y = .int p ∧ 0 ≤ p ∧ p ≤ 3) (rngL 0 1 (1 + r).toNat) [] (wipeE (ρ.set 1 (drw S (n + 1))) [4]) (fun d hd μ hI => by
      obtain ⟨n, hμ, h3⟩ := hI
      have hn := hμ.hn
      obtain ⟨a, a0, a1, ha⟩ := f_next (L := S) (t := 0) (b := 4) hn (by omega)
      have hl := hμ.len
      have f1 := hμ.d1
      refine ⟨μ.set 4 (sv d), (μ.set 4 (sv d)).set 1 (drw S (n + 1)), .int a, rfl, rfl, ?_, ⟨n + 1, ?_, ?_⟩, a, rfl, a0, by omega⟩
      · simp [cfOf, startE, fin_, outsOf, retag, findTag, dRet, dSeq, dEnd, dNever, dIte, dIf, dDrop, dFld, dSet, toB, dC, dName, dBl, dNot, dAnd, dOr, tAndD, tOrD, tNotD, dTru, dBoolC, boolD, dIsi, dIsi2, dIsC, tyN, isN, d2, d3, oV, oPl, aNil, aCons, aStar, argB, argsB, ownPl, nodupB, wb, wb1, dCall, dMeth, oMake, oMake0, dSetFld, res, resAll, bV_val, bV_own, tD_lst, tD_ins, vals, dL, dLV, dTup, dLst, oLst, sz, ofO, i0D, iD, truD, dFz, R.bind, dAsg, gTp, gsCons, gsNil, gNm, dPar, setAll, dAug, dSetIx, isOwn, dApp, dFor, iVals, iRes, iSeq, dSl, pNo, pSome, dNeg, fdivD, modD, powD, mulA, mulI, absD, intD, max2D, min2D, max3D, min3D, isND, notND, dRaise, dDict, okP, flp, sq_tIs, sq_fIs, sq_tT, sq_lT, sq_tB, sq_lB, isq_tIs, isq_fIs, isq_tT, isq_lT, isq_tB, isq_lB, len_tIs, len_fIs, len_tT, len_lT, len_tB, len_lB, en_tIs, en_fIs, en_tT, en_lT, en_tB, en_lB, tup_tIs, tup_fIs, tup_tT, tup_lT, tup_tB, tup_lB, lst_tIs, lst_fIs, lst_tT, lst_lT, lst_tB, lst_lB, Tg_0, Tg_1, f_tIs, f_fIs, f_tT, f_lT, f_tB, f_lB, List.getElem?_set, List.getElem?_cons_zero, List.getElem?_cons_succ, List.getElem?_nil, sq_tup, sq_lst, isq_tup, isq_lst, len_tup, len_lst, add_int, le_int, lt_int, ge_int, gt_int, vals_c1, vals_c0, vals_st1, vals_st0, any_bl, all_bl, ix_t0, ix_t1, ix_t2, -getElem?_pos, f1, hl, ha]
      · exact ((hμ.set (by decide) rfl).draw (by omega)).set (by decide) rfl
      · simp [cfOf, startE, fin_, outsOf, retag, findTag, dRet, dSeq, dEnd, dNever, dIte, dIf, dDrop, dFld, dSet, toB, dC, dName, dBl, dNot, dAnd, dOr, tAndD, tOrD, tNotD, dTru, dBoolC, boolD, dIsi, dIsi2, dIsC, tyN, isN, d2, d3, oV, oPl, aNil, aCons, aStar, argB, argsB, ownPl, nodupB, wb, wb1, dCall, dMeth, oMake, oMake0, dSetFld, res, resAll, bV_val, bV_own, tD_lst, tD_ins, vals, dL, dLV, dTup, dLst, oLst, sz, ofO, i0D, iD, truD, dFz, R.bind, dAsg, gTp, gsCons, gsNil, gNm, dPar, setAll, dAug, dSetIx, isOwn, dApp, dFor, iVals, iRes, iSeq, dSl, pNo, pSome, dNeg, fdivD, modD, powD, mulA, mulI, absD, intD, max2D, min2D, max3D, min3D, isND, notND, dRaise, dDict, okP, flp, sq_tIs, sq_fIs, sq_tT, sq_lT, sq_tB, sq_lB, isq_tIs, isq_fIs, isq_tT, isq_lT, isq_tB, isq_lB, len_tIs, len_fIs, len_tT, len_lT, len_tB, len_lB, en_tIs, en_fIs, en_tT, en_lT, en_tB, en_lB, tup_tIs, tup_fIs, tup_tT, tup_lT, tup_tB, tup_lB, lst_tIs, lst_fIs, lst_tT, lst_lT, lst_tB, lst_lB, Tg_0, Tg_1, f_tIs, f_fIs, f_tT, f_lT, f_tB, f_lB, List.getElem?_set, List.getElem?_cons_zero, List.getElem?_cons_succ, List.getElem?_nil, sq_tup, sq_lst, isq_tup, isq_lst, len_tup, len_lst, add_int, le_int, lt_int, ge_int, gt_int, vals_c1, vals_c0, vals_st1, vals_st0, any_bl, all_bl, ix_t0, ix_t1, ix_t2, -getElem?_pos, wipeE, h3]) ⟨n + 1, hw.set (by decide) rfl, by simp [cfOf, startE, fin_, outsOf, retag, findTag, dRet, dSeq, dEnd, dNever, dIte, dIf, dDrop, dFld, dSet, toB, dC, dName, dBl, dNot, dAnd, dOr, tAndD, tOrD, tNotD, dTru, dBoolC, boolD, dIsi, dIsi2, dIsC, tyN, isN, d2, d3, oV, oPl, aNil, aCons, aStar, argB, argsB, ownPl, nodupB, wb, wb1, dCall, dMeth, oMake, oMake0, dSetFld, res, resAll, bV_val, bV_own, tD_lst, tD_ins, vals, dL, dLV, dTup, dLst, oLst, sz, ofO, i0D, iD, truD, dFz, R.bind, dAsg, gTp, gsCons, gsNil, gNm, dPar, setAll, dAug, dSetIx, isOwn, dApp, dFor, iVals, iRes, iSeq, dSl, pNo, pSome, dNeg, fdivD, modD, powD, mulA, mulI, absD, intD, max2D, min2D, max3D, min3D, isND, notND, dRaise, dDict, okP, flp, sq_tIs, sq_fIs, sq_tT, sq_lT, sq_tB, sq_lB, isq_tIs, isq_fIs, isq_tT, isq_lT, isq_tB, isq_lB, len_tIs, len_fIs, len_tT, len_lT, len_tB, len_lB, en_tIs, en_fIs, en_tT, en_lT, en_tB, en_lB, tup_tIs, tup_fIs, tup_tT, tup_lT, tup_tB, tup_lB, lst_tIs, lst_fIs, lst_tT, lst_lT, lst_tB, lst_lB, Tg_0, Tg_1, f_tIs, f_fIs, f_tT, f_lT, f_tB, f_lB, List.getElem?_set, List.getElem?_cons_zero, List.getElem?_cons_succ, List.getElem?_nil, sq_tup, sq_lst, isq_tup, isq_lst, len_tup, len_lst, add_int, le_int, lt_int, ge_int, gt_int, vals_c1, vals_c0, vals_st1, vals_st0, any_bl, all_bl, ix_t0, ix_t1, ix_t2, -getElem?_pos, wipeE, h5]⟩ (by simp [rngL]; omega)
  obtain ⟨L, hC, hT⟩ := map_of D.int (fun p => 0 ≤ p ∧ p ≤ 3) e4
  subst hC
  have hlen : L.length = (1 + r).toNat := by
    have : (rngL 0 1 (1 + r).toNat).length = (1 + r).toNat := rngL_len
    rw [this, List.length_map] at e3
    exact e3
  have hback : nw ((ρ.set 1 (drw S (n + 1)))[4]?.join) = true := hw.nwj (by decide)
  have hμ2 := g1.set (i := 4) (x := (ρ.set 1 (drw S (n + 1)))[4]?.join) (by decide) hback
  refine ⟨L, n', (μ.set 4 ((ρ.set 1 (drw S (n + 1)))[4]?.join)).set 10 (sv (tIs L)), by omega, by omega, hT, hμ2.set (by decide) rfl, by simp [cfOf, startE, fin_, outsOf, retag, findTag, dRet, dSeq, dEnd, dNever, dIte, dIf, dDrop, dFld, dSet, toB, dC, dName, dBl, dNot, dAnd, dOr, tAndD, tOrD, tNotD, dTru, dBoolC, boolD, dIsi, dIsi2, dIsC, tyN, isN, d2, d3, oV, oPl, aNil, aCons, aStar, argB, argsB, ownPl, nodupB, wb, wb1, dCall, dMeth, oMake, oMake0, dSetFld, res, resAll, bV_val, bV_own, tD_lst, tD_ins, vals, dL, dLV, dTup, dLst, oLst, sz, ofO, i0D, iD, truD, dFz, R.bind, dAsg, gTp, gsCons, gsNil, gNm, dPar, setAll, dAug, dSetIx, isOwn, dApp, dFor, iVals, iRes, iSeq, dSl, pNo, pSome, dNeg, fdivD, modD, powD, mulA, mulI, absD, intD, max2D, min2D, max3D, min3D, isND, notND, dRaise, dDict, okP, flp, sq_tIs, sq_fIs, sq_tT, sq_lT, sq_tB, sq_lB, isq_tIs, isq_fIs, isq_tT, isq_lT, isq_tB, isq_lB, len_tIs, len_fIs, len_tT, len_lT, len_tB, len_lB, en_tIs, en_fIs, en_tT, en_lT, en_tB, en_lB, tup_tIs, tup_fIs, tup_tT, tup_lT, tup_tB, tup_lB, lst_tIs, lst_fIs, lst_tT, lst_lT, lst_tB, lst_lB, Tg_0, Tg_1, f_tIs, f_fIs, f_tT, f_lT, f_tB, f_lB, List.getElem?_set, List.getElem?_cons_zero, List.getElem?_cons_succ, List.getElem?_nil, sq_tup, sq_lst, isq_tup, isq_lst, len_tup, len_lst, add_int, le_int, lt_int, ge_int, gt_int, vals_c1, vals_c0, vals_st1, vals_st0, any_bl, all_bl, ix_t0, ix_t1, ix_t2, -getElem?_pos, g2], by simp [cfOf, startE, fin_, outsOf, retag, findTag, dRet, dSeq, dEnd, dNever, dIte, dIf, dDrop, dFld, dSet, toB, dC, dName, dBl, dNot, dAnd, dOr, tAndD, tOrD, tNotD, dTru, dBoolC, boolD, dIsi, dIsi2, dIsC, tyN, isN, d2, d3, oV, oPl, aNil, aCons, aStar, argB, argsB, ownPl, nodupB, wb, wb1, dCall, dMeth, oMake, oMake0, dSetFld, res, resAll, bV_val, bV_own, tD_lst, tD_ins, vals, dL, dLV, dTup, dLst, oLst, sz, ofO, i0D, iD, truD, dFz, R.bind, dAsg, gTp, gsCons, gsNil, gNm, dPar, setAll, dAug, dSetIx, isOwn, dApp, dFor, iVals, iRes, iSeq, dSl, pNo, pSome, dNeg, fdivD, modD, powD, mulA, mulI, absD, intD, max2D, min2D, max3D, min3D, isND, notND, dRaise, dDict, okP, flp, sq_tIs, sq_fIs, sq_tT, sq_lT, sq_tB, sq_lB, isq_tIs, isq_fIs, isq_tT, isq_lT, isq_tB, isq_lB, len_tIs, len_fIs, len_tT, len_lT, len_tB, len_lB, en_tIs, en_fIs, en_tT, en_lT, en_tB, en_lB, tup_tIs, tup_fIs, tup_tT, tup_lT, tup_tB, tup_lB, lst_tIs, lst_fIs, lst_tT, lst_lT, lst_tB, lst_lB, Tg_0, Tg_1, f_tIs, f_fIs, f_tT, f_lT, f_tB, f_lB, List.getElem?_set, List.getElem?_cons_zero, List.getElem?_cons_succ, List.getElem?_nil, sq_tup, sq_lst, isq_tup, isq_lst, len_tup, len_lst, add_int, le_int, lt_int, ge_int, gt_int, vals_c1, vals_c0, vals_st1, vals_st0, any_bl, all_bl, ix_t0, ix_t1, ix_t2, -getElem?_pos, g1.len], ?_⟩
  have f1 := h.d1
  have hnr : near (1 + r) = true := near_ok (by omega) (by omega)
  have hno := hw.no (vs := [4]) (by decide)
  have elc : oLc (iRes rng1 (aCons (oV (d2 addD (oV (dC (.int 1))) (oV (dCall F__law_next (aCons (oPl 1) (aCons (oV (dC (.int 4))) aNil)))))) aNil)) [4] (gNm 4) tTrue (dCall F__law_next (aCons (oPl 1) (aCons (oV (dC (.int 4))) aNil))) ρ = .ok (μ.set 4 ((ρ.set 1 (drw S (n + 1)))[4]?.join), .fr (.lst (L.map D.int))) := by
    have ei : iRes rng1 (aCons (oV (d2 addD (oV (dC (.int 1))) (oV (dCall F__law_next (aCons (oPl 1) (aCons (oV (dC (.int 4))) aNil)))))) aNil) ρ = .ok (ρ.set 1 (drw S (n + 1)), rngL 0 1 (1 + r).toNat) := by
      simp [cfOf, startE, fin_, outsOf, retag, findTag, dRet, dSeq, dEnd, dNever, dIte, dIf, dDrop, dFld, dSet, toB, dC, dName, dBl, dNot, dAnd, dOr, tAndD, tOrD, tNotD, dTru, dBoolC, boolD, dIsi, dIsi2, dIsC, tyN, isN, d2, d3, oV, oPl, aNil, aCons, aStar, argB, argsB, ownPl, nodupB, wb, wb1, dCall, dMeth, oMake, oMake0, dSetFld, res, resAll, bV_val, bV_own, tD_lst, tD_ins, vals, dL, dLV, dTup, dLst, oLst, sz, ofO, i0D, iD, truD, dFz, R.bind, dAsg, gTp, gsCons, gsNil, gNm, dPar, setAll, dAug, dSetIx, isOwn, dApp, dFor, iVals, iRes, iSeq, dSl, pNo, pSome, dNeg, fdivD, modD, powD, mulA, mulI, absD, intD, max2D, min2D, max3D, min3D, isND, notND, dRaise, dDict, okP, flp, sq_tIs, sq_fIs, sq_tT, sq_lT, sq_tB, sq_lB, isq_tIs, isq_fIs, isq_tT, isq_lT, isq_tB, isq_lB, len_tIs, len_fIs, len_tT, len_lT, len_tB, len_lB, en_tIs, en_fIs, en_tT, en_lT, en_tB, en_lB, tup_tIs, tup_fIs, tup_tT, tup_lT, tup_tB, tup_lB, lst_tIs, lst_fIs, lst_tT, lst_lT, lst_tB, lst_lB, Tg_0, Tg_1, f_tIs, f_fIs, f_tT, f_lT, f_tB, f_lB, List.getElem?_set, List.getElem?_cons_zero, List.getElem?_cons_succ, List.getElem?_nil, sq_tup, sq_lst, isq_tup, isq_lst, len_tup, len_lst, add_int, le_int, lt_int, ge_int, gt_int, vals_c1, vals_c0, vals_st1, vals_st0, any_bl, all_bl, ix_t0, ix_t1, ix_t2, -getElem?_pos, f1, hl, hr, rng1, hnr]
    unfold oLc
    rw [ei]
    show (if noOwn _ [4] = true then _ else _) = _
    rw [if_pos hno, e1]
    rfl
  have et : tupleD [.lst (L.map D.int)] = some (tIs L) := rfl
  unfold S_law_7
  generalize oLc _ _ _ _ _ = LC at *
  generalize L.map D.int = CM at *
  simp [cfOf, startE, fin_, outsOf, retag, findTag, dRet, dSeq, dEnd, dNever, dIte, dIf, dDrop, dFld, dSet, toB, dC, dName, dBl, dNot, dAnd, dOr, tAndD, tOrD, tNotD, dTru, dBoolC, boolD, dIsi, dIsi2, dIsC, tyN, isN, d2, d3, oV, oPl, aNil, aCons, aStar, argB, argsB, ownPl, nodupB, wb, wb1, dCall, dMeth, oMake, oMake0, dSetFld, res, resAll, bV_val, bV_own, tD_lst, tD_ins, vals, dL, dLV, dTup, dLst, oLst, sz, ofO, i0D, iD, truD, dFz, R.bind, dAsg, gTp, gsCons, gsNil, gNm, dPar, setAll, dAug, dSetIx, isOwn, dApp, dFor, iVals, iRes, iSeq, dSl, pNo, pSome, dNeg, fdivD, modD, powD, mulA, mulI, absD, intD, max2D, min2D, max3D, min3D, isND, notND, dRaise, dDict, okP, flp, sq_tIs, sq_fIs, sq_tT, sq_lT, sq_tB, sq_lB, isq_tIs, isq_fIs, isq_tT, isq_lT, isq_tB, isq_lB, len_tIs, len_fIs, len_tT, len_lT, len_tB, len_lB, en_tIs, en_fIs, en_tT, en_lT, en_tB, en_lB, tup_tIs, tup_fIs, tup_tT, tup_lT, tup_tB, tup_lB, lst_tIs, lst_fIs, lst_tT, lst_lT, lst_tB, lst_lB, Tg_0, Tg_1, f_tIs, f_fIs, f_tT, f_lT, f_tB, f_lB, List.getElem?_set, List.getElem?_cons_zero, List.getElem?_cons_succ, List.getElem?_nil, sq_tup, sq_lst, isq_tup, isq_lst, len_tup, len_lst, add_int, le_int, lt_int, ge_int, gt_int, vals_c1, vals_c0, vals_st1, vals_st0, any_bl, all_bl, ix_t0, ix_t1, ix_t2, -getElem?_pos, elc, et]
theorem st8 {S : List Int} {n : Int} {ρ : Zd.Env} (h : LS S n ρ) : ∃ (t g n' : Int), 1 ≤ t ∧ t ≤ 3 ∧ 0 ≤ g ∧ g ≤ 4 ∧ 0 ≤ n' ∧ S_law_8 ρ = .ok (((ρ.set 1 (drw S n')).set 11 (some (iv t))).set 12 (some (iv g)), .nx) := by
  have hn := h.hn
  have hl := h.len
  have f1 := h.d1
  obtain ⟨r, r0, r1, hr⟩ := f_next (L := S) (t := 0) (b := 3) hn (by omega)
  obtain ⟨q, q0, q1, hq⟩ := f_next (L := S) (t := 0) (b := 5) (n := n + 1) (by omega) (by omega)
  refine ⟨1 + r, q, n + 1 + 1, by omega, by omega, q0, by omega, by omega, ?_⟩
  unfold S_law_8
  simp [cfOf, startE, fin_, outsOf, retag, findTag, dRet, dSeq, dEnd, dNever, dIte, dIf, dDrop, dFld, dSet, toB, dC, dName, dBl, dNot, dAnd, dOr, tAndD, tOrD, tNotD, dTru, dBoolC, boolD, dIsi, dIsi2, dIsC, tyN, isN, d2, d3, oV, oPl, aNil, aCons, aStar, argB, argsB, ownPl, nodupB, wb, wb1, dCall, dMeth, oMake, oMake0, dSetFld, res, resAll, bV_val, bV_own, tD_lst, tD_ins, vals, dL, dLV, dTup, dLst, oLst, sz, ofO, i0D, iD, truD, dFz, R.bind, dAsg, gTp, gsCons, gsNil, gNm, dPar, setAll, dAug, dSetIx, isOwn, dApp, dFor, iVals, iRes, iSeq, dSl, pNo, pSome, dNeg, fdivD, modD, powD, mulA, mulI, absD, intD, max2D, min2D, max3D, min3D, isND, notND, dRaise, dDict, okP, flp, sq_tIs, sq_fIs, sq_tT, sq_lT, sq_tB, sq_lB, isq_tIs, isq_fIs, isq_tT, isq_lT, isq_tB, isq_lB, len_tIs, len_fIs, len_tT, len_lT, len_tB, len_lB, en_tIs, en_fIs, en_tT, en_lT, en_tB, en_lB, tup_tIs, tup_fIs, tup_tT, tup_lT, tup_tB, tup_lB, lst_tIs, lst_fIs, lst_tT, lst_lT, lst_tB, lst_lB, Tg_0, Tg_1, f_tIs, f_fIs, f_tT, f_lT, f_tB, f_lB, List.getElem?_set, List.getElem?_cons_zero, List.getElem?_cons_succ, List.getElem?_nil, sq_tup, sq_lst, isq_tup, isq_lst, len_tup, len_lst, add_int, le_int, lt_int, ge_int, gt_int, vals_c1, vals_c0, vals_st1, vals_st0, any_bl, all_bl, ix_t0, ix_t1, ix_t2, -getElem?_pos, f1, hl, hr, hq]
theorem st9 {ρ : Zd.Env} {L : List Int} {t g : Int} {C : List Pt} (l1 : 1 ≤ L.length) (l2 : L.length ≤ 4) (hL : ∀ z ∈ L, 0 ≤ z ∧ z ≤ 3) (t1 : 1 ≤ t) (t2 : t ≤ 3) (g1 : 0 ≤ g) (g2 : g ≤ 12) (h : ∀ p ∈ C, TagOk p) (hC : C.length ≤ 24)
    (h5 : ρ[5]? = some (sv (tT C))) (h10 : ρ[10]? = some (sv (tIs L))) (h11 : ρ[11]? = some (some (iv t))) (h12 : ρ[12]? = some (some (iv g))) : S_law_9 ρ = .ok (ρ, .nx) := by
  have e1 := f_are_coming l1 l2 hL t1 t2 g1 g2 h hC
  have e2 := f_law_can (L := L) (t := t) (g := g) (fun p hp => (h p hp).1) (show C.length ≤ 1000 by omega)
  unfold S_law_9
  simp [cfOf, startE, fin_, outsOf, retag, findTag, dRet, dSeq, dEnd, dNever, dIte, dIf, dDrop, dFld, dSet, toB, dC, dName, dBl, dNot, dAnd, dOr, tAndD, tOrD, tNotD, dTru, dBoolC, boolD, dIsi, dIsi2, dIsC, tyN, isN, d2, d3, oV, oPl, aNil, aCons, aStar, argB, argsB, ownPl, nodupB, wb, wb1, dCall, dMeth, oMake, oMake0, dSetFld, res, resAll, bV_val, bV_own, tD_lst, tD_ins, vals, dL, dLV, dTup, dLst, oLst, sz, ofO, i0D, iD, truD, dFz, R.bind, dAsg, gTp, gsCons, gsNil, gNm, dPar, setAll, dAug, dSetIx, isOwn, dApp, dFor, iVals, iRes, iSeq, dSl, pNo, pSome, dNeg, fdivD, modD, powD, mulA, mulI, absD, intD, max2D, min2D, max3D, min3D, isND, notND, dRaise, dDict, okP, flp, sq_tIs, sq_fIs, sq_tT, sq_lT, sq_tB, sq_lB, isq_tIs, isq_fIs, isq_tT, isq_lT, isq_tB, isq_lB, len_tIs, len_fIs, len_tT, len_lT, len_tB, len_lB, en_tIs, en_fIs, en_tT, en_lT, en_tB, en_lB, tup_tIs, tup_fIs, tup_tT, tup_lT, tup_tB, tup_lB, lst_tIs, lst_fIs, lst_tT, lst_lT, lst_tB, lst_lB, Tg_0, Tg_1, f_tIs, f_fIs, f_tT, f_lT, f_tB, f_lB, List.getElem?_set, List.getElem?_cons_zero, List.getElem?_cons_succ, List.getElem?_nil, sq_tup, sq_lst, isq_tup, isq_lst, len_tup, len_lst, add_int, le_int, lt_int, ge_int, gt_int, vals_c1, vals_c0, vals_st1, vals_st0, any_bl, all_bl, ix_t0, ix_t1, ix_t2, -getElem?_pos, h5, h10, h11, h12, e1, e2, ne_bl]
theorem st10 {ρ : Zd.Env} : S_law_10 ρ = .ok (ρ.set 13 (sv (tT [])), .nx) := by
  have e : tT [] = .tup [] := rfl
  rw [e]
  unfold S_law_10
  simp [cfOf, startE, fin_, outsOf, retag, findTag, dRet, dSeq, dEnd, dNever, dIte, dIf, dDrop, dFld, dSet, toB, dC, dName, dBl, dNot, dAnd, dOr, tAndD, tOrD, tNotD, dTru, dBoolC, boolD, dIsi, dIsi2, dIsC, tyN, isN, d2, d3, oV, oPl, aNil, aCons, aStar, argB, argsB, ownPl, nodupB, wb, wb1, dCall, dMeth, oMake, oMake0, dSetFld, res, resAll, bV_val, bV_own, tD_lst, tD_ins, vals, dL, dLV, dTup, dLst, oLst, sz, ofO, i0D, iD, truD, dFz, R.bind, dAsg, gTp, gsCons, gsNil, gNm, dPar, setAll, dAug, dSetIx, isOwn, dApp, dFor, iVals, iRes, iSeq, dSl, pNo, pSome, dNeg, fdivD, modD, powD, mulA, mulI, absD, intD, max2D, min2D, max3D, min3D, isND, notND, dRaise, dDict, okP, flp, sq_tIs, sq_fIs, sq_tT, sq_lT, sq_tB, sq_lB, isq_tIs, isq_fIs, isq_tT, isq_lT, isq_tB, isq_lB, len_tIs, len_fIs, len_tT, len_lT, len_tB, len_lB, en_tIs, en_fIs, en_tT, en_lT, en_tB, en_lB, tup_tIs, tup_fIs, tup_tT, tup_lT, tup_tB, tup_lB, lst_tIs, lst_fIs, lst_tT, lst_lT, lst_tB, lst_lB, Tg_0, Tg_1, f_tIs, f_fIs, f_tT, f_lT, f_tB, f_lB, List.getElem?_set, List.getElem?_cons_zero, List.getElem?_cons_succ, List.getElem?_nil, sq_tup, sq_lst, isq_tup, isq_lst, len_tup, len_lst, add_int, le_int, lt_int, ge_int, gt_int, vals_c1, vals_c0, vals_st1, vals_st0, any_bl, all_bl, ix_t0, ix_t1, ix_t2, -getElem?_pos]
/-! ### rows kept -/
def rk (m : Me) (L : List Int) : Int := match m with
  | .all => L.sum
  | .last => (L.filter fun z => decide (0 < z)).length
  | .win w => if L.sum < w then L.sum else w
theorem sum_tIs (L : List Int) : sum2D [tIs L] = some (.int L.sum) := by
  show ((intsD (L.map D.int))).map (fun ns => D.int ns.sum) = _
  rw [ints_map]; rfl
theorem f_rows_kept {m : Me} {L : List Int} (hm : m.ok) (l1 : 1 ≤ L.length) (l2 : L.length ≤ 4) (hL : ∀ z ∈ L, 0 ≤ z ∧ z ≤ 3) : F_rows_kept [.val m.d, .val (tIs L)] = .ok [none, none] (.int (rk m L)) := by
  have e1 := f_check_memory hm
  have e2 := f_check_crowd (t := 1) (g := 0) l1 l2 hL (by omega) (by omega) (by omega) (by omega)
  have i0 := hd_ix m
  have i1 := hd_last m
  have i2 := hd_win m
  cases m with
  | all => simp [cfOf, startE, fin_, outsOf, retag, findTag, dRet, dSeq, dEnd, dNever, dIte, dIf, dDrop, dFld, dSet, toB, dC, dName, dBl, dNot, dAnd, dOr, tAndD, tOrD, tNotD, dTru, dBoolC, boolD, dIsi, dIsi2, dIsC, tyN, isN, d2, d3, oV, oPl, aNil, aCons, aStar, argB, argsB, ownPl, nodupB, wb, wb1, dCall, dMeth, oMake, oMake0, dSetFld, res, resAll, bV_val, bV_own, tD_lst, tD_ins, vals, dL, dLV, dTup, dLst, oLst, sz, ofO, i0D, iD, truD, dFz, R.bind, dAsg, gTp, gsCons, gsNil, gNm, dPar, setAll, dAug, dSetIx, isOwn, dApp, dFor, iVals, iRes, iSeq, dSl, pNo, pSome, dNeg, fdivD, modD, powD, mulA, mulI, absD, intD, max2D, min2D, max3D, min3D, isND, notND, dRaise, dDict, okP, flp, sq_tIs, sq_fIs, sq_tT, sq_lT, sq_tB, sq_lB, isq_tIs, isq_fIs, isq_tT, isq_lT, isq_tB, isq_lB, len_tIs, len_fIs, len_tT, len_lT, len_tB, len_lB, en_tIs, en_fIs, en_tT, en_lT, en_tB, en_lB, tup_tIs, tup_fIs, tup_tT, tup_lT, tup_tB, tup_lB, lst_tIs, lst_fIs, lst_tT, lst_lT, lst_tB, lst_lB, Tg_0, Tg_1, f_tIs, f_fIs, f_tT, f_lT, f_tB, f_lB, List.getElem?_set, List.getElem?_cons_zero, List.getElem?_cons_succ, List.getElem?_nil, sq_tup, sq_lst, isq_tup, isq_lst, len_tup, len_lst, add_int, le_int, lt_int, ge_int, gt_int, vals_c1, vals_c0, vals_st1, vals_st0, any_bl, all_bl, ix_t0, ix_t1, ix_t2, -getElem?_pos, F_rows_kept, D_rows_kept, e1, e2, i0, i1, i2, Me.isLast, Me.isWin, sum_tIs, rk]
  | last =>
    have q := lc_1 (v := 2) (ρ0 := [sv Me.last.d, sv (tIs L), none]) (ρ := [sv Me.last.d, sv (tIs L), none]) (di := iSeq (dName 1)) (t := dBl (d2 gtD (oPl 2) (oV (dC (.int 0))))) (c := dName 2) (L := L) D.int (fun z => decide (0 < z)) D.int (by simp) rfl (by simp [cfOf, startE, fin_, outsOf, retag, findTag, dRet, dSeq, dEnd, dNever, dIte, dIf, dDrop, dFld, dSet, toB, dC, dName, dBl, dNot, dAnd, dOr, tAndD, tOrD, tNotD, dTru, dBoolC, boolD, dIsi, dIsi2, dIsC, tyN, isN, d2, d3, oV, oPl, aNil, aCons, aStar, argB, argsB, ownPl, nodupB, wb, wb1, dCall, dMeth, oMake, oMake0, dSetFld, res, resAll, bV_val, bV_own, tD_lst, tD_ins, vals, dL, dLV, dTup, dLst, oLst, sz, ofO, i0D, iD, truD, dFz, R.bind, dAsg, gTp, gsCons, gsNil, gNm, dPar, setAll, dAug, dSetIx, isOwn, dApp, dFor, iVals, iRes, iSeq, dSl, pNo, pSome, dNeg, fdivD, modD, powD, mulA, mulI, absD, intD, max2D, min2D, max3D, min3D, isND, notND, dRaise, dDict, okP, flp, sq_tIs, sq_fIs, sq_tT, sq_lT, sq_tB, sq_lB, isq_tIs, isq_fIs, isq_tT, isq_lT, isq_tB, isq_lB, len_tIs, len_fIs, len_tT, len_lT, len_tB, len_lB, en_tIs, en_fIs, en_tT, en_lT, en_tB, en_lB, tup_tIs, tup_fIs, tup_tT, tup_lT, tup_tB, tup_lB, lst_tIs, lst_fIs, lst_tT, lst_lT, lst_tB, lst_lB, Tg_0, Tg_1, f_tIs, f_fIs, f_tT, f_lT, f_tB, f_lB, List.getElem?_set, List.getElem?_cons_zero, List.getElem?_cons_succ, List.getElem?_nil, sq_tup, sq_lst, isq_tup, isq_lst, len_tup, len_lst, add_int, le_int, lt_int, ge_int, gt_int, vals_c1, vals_c0, vals_st1, vals_st0, any_bl, all_bl, ix_t0, ix_t1, ix_t2, -getElem?_pos])
      (fun x _ => by simp [cfOf, startE, fin_, outsOf, retag, findTag, dRet, dSeq, dEnd, dNever, dIte, dIf, dDrop, dFld, dSet, toB, dC, dName, dBl, dNot, dAnd, dOr, tAndD, tOrD, tNotD, dTru, dBoolC, boolD, dIsi, dIsi2, dIsC, tyN, isN, d2, d3, oV, oPl, aNil, aCons, aStar, argB, argsB, ownPl, nodupB, wb, wb1, dCall, dMeth, oMake, oMake0, dSetFld, res, resAll, bV_val, bV_own, tD_lst, tD_ins, vals, dL, dLV, dTup, dLst, oLst, sz, ofO, i0D, iD, truD, dFz, R.bind, dAsg, gTp, gsCons, gsNil, gNm, dPar, setAll, dAug, dSetIx, isOwn, dApp, dFor, iVals, iRes, iSeq, dSl, pNo, pSome, dNeg, fdivD, modD, powD, mulA, mulI, absD, intD, max2D, min2D, max3D, min3D, isND, notND, dRaise, dDict, okP, flp, sq_tIs, sq_fIs, sq_tT, sq_lT, sq_tB, sq_lB, isq_tIs, isq_fIs, isq_tT, isq_lT, isq_tB, isq_lB, len_tIs, len_fIs, len_tT, len_lT, len_tB, len_lB, en_tIs, en_fIs, en_tT, en_lT, en_tB, en_lB, tup_tIs, tup_fIs, tup_tT, tup_lT, tup_tB, tup_lB, lst_tIs, lst_fIs, lst_tT, lst_lT, lst_tB, lst_lB, Tg_0, Tg_1, f_tIs, f_fIs, f_tT, f_lT, f_tB, f_lB, List.getElem?_set, List.getElem?_cons_zero, List.getElem?_cons_succ, List.getElem?_nil, sq_tup, sq_lst, isq_tup, isq_lst, len_tup, len_lst, add_int, le_int, lt_int, ge_int, gt_int, vals_c1, vals_c0, vals_st1, vals_st0, any_bl, all_bl, ix_t0, ix_t1, ix_t2, -getElem?_pos]) (fun x _ _ => by simp [cfOf, startE, fin_, outsOf, retag, findTag, dRet, dSeq, dEnd, dNever, dIte, dIf, dDrop, dFld, dSet, toB, dC, dName, dBl, dNot, dAnd, dOr, tAndD, tOrD, tNotD, dTru, dBoolC, boolD, dIsi, dIsi2, dIsC, tyN, isN, d2, d3, oV, oPl, aNil, aCons, aStar, argB, argsB, ownPl, nodupB, wb, wb1, dCall, dMeth, oMake, oMake0, dSetFld, res, resAll, bV_val, bV_own, tD_lst, tD_ins, vals, dL, dLV, dTup, dLst, oLst, sz, ofO, i0D, iD, truD, dFz, R.bind, dAsg, gTp, gsCons, gsNil, gNm, dPar, setAll, dAug, dSetIx, isOwn, dApp, dFor, iVals, iRes, iSeq, dSl, pNo, pSome, dNeg, fdivD, modD, powD, mulA, mulI, absD, intD, max2D, min2D, max3D, min3D, isND, notND, dRaise, dDict, okP, flp, sq_tIs, sq_fIs, sq_tT, sq_lT, sq_tB, sq_lB, isq_tIs, isq_fIs, isq_tT, isq_lT, isq_tB, isq_lB, len_tIs, len_fIs, len_tT, len_lT, len_tB, len_lB, en_tIs, en_fIs, en_tT, en_lT, en_tB, en_lB, tup_tIs, tup_fIs, tup_tT, tup_lT, tup_tB, tup_lB, lst_tIs, lst_fIs, lst_tT, lst_lT, lst_tB, lst_lB, Tg_0, Tg_1, f_tIs, f_fIs, f_tT, f_lT, f_tB, f_lB, List.getElem?_set, List.getElem?_cons_zero, List.getElem?_cons_succ, List.getElem?_nil, sq_tup, sq_lst, isq_tup, isq_lst, len_tup, len_lst, add_int, le_int, lt_int, ge_int, gt_int, vals_c1, vals_c0, vals_st1, vals_st0, any_bl, all_bl, ix_t0, ix_t1, ix_t2, -getElem?_pos]) (by omega)
    simp [cfOf, startE, fin_, outsOf, retag, findTag, dRet, dSeq, dEnd, dNever, dIte, dIf, dDrop, dFld, dSet, toB, dC, dName, dBl, dNot, dAnd, dOr, tAndD, tOrD, tNotD, dTru, dBoolC, boolD, dIsi, dIsi2, dIsC, tyN, isN, d2, d3, oV, oPl, aNil, aCons, aStar, argB, argsB, ownPl, nodupB, wb, wb1, dCall, dMeth, oMake, oMake0, dSetFld, res, resAll, bV_val, bV_own, tD_lst, tD_ins, vals, dL, dLV, dTup, dLst, oLst, sz, ofO, i0D, iD, truD, dFz, R.bind, dAsg, gTp, gsCons, gsNil, gNm, dPar, setAll, dAug, dSetIx, isOwn, dApp, dFor, iVals, iRes, iSeq, dSl, pNo, pSome, dNeg, fdivD, modD, powD, mulA, mulI, absD, intD, max2D, min2D, max3D, min3D, isND, notND, dRaise, dDict, okP, flp, sq_tIs, sq_fIs, sq_tT, sq_lT, sq_tB, sq_lB, isq_tIs, isq_fIs, isq_tT, isq_lT, isq_tB, isq_lB, len_tIs, len_fIs, len_tT, len_lT, len_tB, len_lB, en_tIs, en_fIs, en_tT, en_lT, en_tB, en_lB, tup_tIs, tup_fIs, tup_tT, tup_lT, tup_tB, tup_lB, lst_tIs, lst_fIs, lst_tT, lst_lT, lst_tB, lst_lB, Tg_0, Tg_1, f_tIs, f_fIs, f_tT, f_lT, f_tB, f_lB, List.getElem?_set, List.getElem?_cons_zero, List.getElem?_cons_succ, List.getElem?_nil, sq_tup, sq_lst, isq_tup, isq_lst, len_tup, len_lst, add_int, le_int, lt_int, ge_int, gt_int, vals_c1, vals_c0, vals_st1, vals_st0, any_bl, all_bl, ix_t0, ix_t1, ix_t2, -getElem?_pos, F_rows_kept, D_rows_kept, e1, e2, i0, i1, Me.isLast, q, rk]
  | win w =>
    have iw : ixD (Me.win w).d (.int 1) = some (.int w) := rfl
    simp [cfOf, startE, fin_, outsOf, retag, findTag, dRet, dSeq, dEnd, dNever, dIte, dIf, dDrop, dFld, dSet, toB, dC, dName, dBl, dNot, dAnd, dOr, tAndD, tOrD, tNotD, dTru, dBoolC, boolD, dIsi, dIsi2, dIsC, tyN, isN, d2, d3, oV, oPl, aNil, aCons, aStar, argB, argsB, ownPl, nodupB, wb, wb1, dCall, dMeth, oMake, oMake0, dSetFld, res, resAll, bV_val, bV_own, tD_lst, tD_ins, vals, dL, dLV, dTup, dLst, oLst, sz, ofO, i0D, iD, truD, dFz, R.bind, dAsg, gTp, gsCons, gsNil, gNm, dPar, setAll, dAug, dSetIx, isOwn, dApp, dFor, iVals, iRes, iSeq, dSl, pNo, pSome, dNeg, fdivD, modD, powD, mulA, mulI, absD, intD, max2D, min2D, max3D, min3D, isND, notND, dRaise, dDict, okP, flp, sq_tIs, sq_fIs, sq_tT, sq_lT, sq_tB, sq_lB, isq_tIs, isq_fIs, isq_tT, isq_lT, isq_tB, isq_lB, len_tIs, len_fIs, len_tT, len_lT, len_tB, len_lB, en_tIs, en_fIs, en_tT, en_lT, en_tB, en_lB, tup_tIs, tup_fIs, tup_tT, tup_lT, tup_tB, tup_lB, lst_tIs, lst_fIs, lst_tT, lst_lT, lst_tB, lst_lB, Tg_0, Tg_1, f_tIs, f_fIs, f_tT, f_lT, f_tB, f_lB, List.getElem?_set, List.getElem?_cons_zero, List.getElem?_cons_succ, List.getElem?_nil, sq_tup, sq_lst, isq_tup, isq_lst, len_tup, len_lst, add_int, le_int, lt_int, ge_int, gt_int, vals_c1, vals_c0, vals_st1, vals_st0, any_bl, all_bl, ix_t0, ix_t1, ix_t2, -getElem?_pos, F_rows_kept, D_rows_kept, e1, e2, i0, i1, i2, Me.isLast, Me.isWin, sum_tIs, rk, iw, min2D]
def kpt (L : List Int) : D := .dct [.inr "all", .inr "last"] [.int L.sum, .int ((L.filter fun z => decide (0 < z)).length : Nat)]
theorem st13 {S : List Int} {n : Int} {ρ : Zd.Env} {L : List Int} (h : LS S n ρ) (l2 : L.length ≤ 4) (h10 : ρ[10]? = some (sv (tIs L))) : S_law_13 ρ = .ok (ρ.set 18 (sv (kpt L)), .nx) := by
  have hl := h.len
  have q := lc_1 (v := 17) (ρ0 := ρ) (ρ := ρ) (di := iSeq (dName 10)) (t := dBl (d2 gtD (oPl 17) (oV (dC (.int 0))))) (c := dName 17) (L := L) D.int (fun z => decide (0 < z)) D.int (by omega) (h.no (by decide)) (by simp [cfOf, startE, fin_, outsOf, retag, findTag, dRet, dSeq, dEnd, dNever, dIte, dIf, dDrop, dFld, dSet, toB, dC, dName, dBl, dNot, dAnd, dOr, tAndD, tOrD, tNotD, dTru, dBoolC, boolD, dIsi, dIsi2, dIsC, tyN, isN, d2, d3, oV, oPl, aNil, aCons, aStar, argB, argsB, ownPl, nodupB, wb, wb1, dCall, dMeth, oMake, oMake0, dSetFld, res, resAll, bV_val, bV_own, tD_lst, tD_ins, vals, dL, dLV, dTup, dLst, oLst, sz, ofO, i0D, iD, truD, dFz, R.bind, dAsg, gTp, gsCons, gsNil, gNm, dPar, setAll, dAug, dSetIx, isOwn, dApp, dFor, iVals, iRes, iSeq, dSl, pNo, pSome, dNeg, fdivD, modD, powD, mulA, mulI, absD, intD, max2D, min2D, max3D, min3D, isND, notND, dRaise, dDict, okP, flp, sq_tIs, sq_fIs, sq_tT, sq_lT, sq_tB, sq_lB, isq_tIs, isq_fIs, isq_tT, isq_lT, isq_tB, isq_lB, len_tIs, len_fIs, len_tT, len_lT, len_tB, len_lB, en_tIs, en_fIs, en_tT, en_lT, en_tB, en_lB, tup_tIs, tup_fIs, tup_tT, tup_lT, tup_tB, tup_lB, lst_tIs, lst_fIs, lst_tT, lst_lT, lst_tB, lst_lB, Tg_0, Tg_1, f_tIs, f_fIs, f_tT, f_lT, f_tB, f_lB, List.getElem?_set, List.getElem?_cons_zero, List.getElem?_cons_succ, List.getElem?_nil, sq_tup, sq_lst, isq_tup, isq_lst, len_tup, len_lst, add_int, le_int, lt_int, ge_int, gt_int, vals_c1, vals_c0, vals_st1, vals_st0, any_bl, all_bl, ix_t0, ix_t1, ix_t2, -getElem?_pos, h10])
      (fun x _ => by simp [cfOf, startE, fin_, outsOf, retag, findTag, dRet, dSeq, dEnd, dNever, dIte, dIf, dDrop, dFld, dSet, toB, dC, dName, dBl, dNot, dAnd, dOr, tAndD, tOrD, tNotD, dTru, dBoolC, boolD, dIsi, dIsi2, dIsC, tyN, isN, d2, d3, oV, oPl, aNil, aCons, aStar, argB, argsB, ownPl, nodupB, wb, wb1, dCall, dMeth, oMake, oMake0, dSetFld, res, resAll, bV_val, bV_own, tD_lst, tD_ins, vals, dL, dLV, dTup, dLst, oLst, sz, ofO, i0D, iD, truD, dFz, R.bind, dAsg, gTp, gsCons, gsNil, gNm, dPar, setAll, dAug, dSetIx, isOwn, dApp, dFor, iVals, iRes, iSeq, dSl, pNo, pSome, dNeg, fdivD, modD, powD, mulA, mulI, absD, intD, max2D, min2D, max3D, min3D, isND, notND, dRaise, dDict, okP, flp, sq_tIs, sq_fIs, sq_tT, sq_lT, sq_tB, sq_lB, isq_tIs, isq_fIs, isq_tT, isq_lT, isq_tB, isq_lB, len_tIs, len_fIs, len_tT, len_lT, len_tB, len_lB, en_tIs, en_fIs, en_tT, en_lT, en_tB, en_lB, tup_tIs, tup_fIs, tup_tT, tup_lT, tup_tB, tup_lB, lst_tIs, lst_fIs, lst_tT, lst_lT, lst_tB, lst_lB, Tg_0, Tg_1, f_tIs, f_fIs, f_tT, f_lT, f_tB, f_lB, List.getElem?_set, List.getElem?_cons_zero, List.getElem?_cons_succ, List.getElem?_nil, sq_tup, sq_lst, isq_tup, isq_lst, len_tup, len_lst, add_int, le_int, lt_int, ge_int, gt_int, vals_c1, vals_c0, vals_st1, vals_st0, any_bl, all_bl, ix_t0, ix_t1, ix_t2, -getElem?_pos, hl]) (fun x _ _ => by simp [cfOf, startE, fin_, outsOf, retag, findTag, dRet, dSeq, dEnd, dNever, dIte, dIf, dDrop, dFld, dSet, toB, dC, dName, dBl, dNot, dAnd, dOr, tAndD, tOrD, tNotD, dTru, dBoolC, boolD, dIsi, dIsi2, dIsC, tyN, isN, d2, d3, oV, oPl, aNil, aCons, aStar, argB, argsB, ownPl, nodupB, wb, wb1, dCall, dMeth, oMake, oMake0, dSetFld, res, resAll, bV_val, bV_own, tD_lst, tD_ins, vals, dL, dLV, dTup, dLst, oLst, sz, ofO, i0D, iD, truD, dFz, R.bind, dAsg, gTp, gsCons, gsNil, gNm, dPar, setAll, dAug, dSetIx, isOwn, dApp, dFor, iVals, iRes, iSeq, dSl, pNo, pSome, dNeg, fdivD, modD, powD, mulA, mulI, absD, intD, max2D, min2D, max3D, min3D, isND, notND, dRaise, dDict, okP, flp, sq_tIs, sq_fIs, sq_tT, sq_lT, sq_tB, sq_lB, isq_tIs, isq_fIs, isq_tT, isq_lT, isq_tB, isq_lB, len_tIs, len_fIs, len_tT, len_lT, len_tB, len_lB, en_tIs, en_fIs, en_tT, en_lT, en_tB, en_lB, tup_tIs, tup_fIs, tup_tT, tup_lT, tup_tB, tup_lB, lst_tIs, lst_fIs, lst_tT, lst_lT, lst_tB, lst_lB, Tg_0, Tg_1, f_tIs, f_fIs, f_tT, f_lT, f_tB, f_lB, List.getElem?_set, List.getElem?_cons_zero, List.getElem?_cons_succ, List.getElem?_nil, sq_tup, sq_lst, isq_tup, isq_lst, len_tup, len_lst, add_int, le_int, lt_int, ge_int, gt_int, vals_c1, vals_c0, vals_st1, vals_st0, any_bl, all_bl, ix_t0, ix_t1, ix_t2, -getElem?_pos, hl]) (by omega)
  unfold S_law_13 kpt
  simp [cfOf, startE, fin_, outsOf, retag, findTag, dRet, dSeq, dEnd, dNever, dIte, dIf, dDrop, dFld, dSet, toB, dC, dName, dBl, dNot, dAnd, dOr, tAndD, tOrD, tNotD, dTru, dBoolC, boolD, dIsi, dIsi2, dIsC, tyN, isN, d2, d3, oV, oPl, aNil, aCons, aStar, argB, argsB, ownPl, nodupB, wb, wb1, dCall, dMeth, oMake, oMake0, dSetFld, res, resAll, bV_val, bV_own, tD_lst, tD_ins, vals, dL, dLV, dTup, dLst, oLst, sz, ofO, i0D, iD, truD, dFz, R.bind, dAsg, gTp, gsCons, gsNil, gNm, dPar, setAll, dAug, dSetIx, isOwn, dApp, dFor, iVals, iRes, iSeq, dSl, pNo, pSome, dNeg, fdivD, modD, powD, mulA, mulI, absD, intD, max2D, min2D, max3D, min3D, isND, notND, dRaise, dDict, okP, flp, sq_tIs, sq_fIs, sq_tT, sq_lT, sq_tB, sq_lB, isq_tIs, isq_fIs, isq_tT, isq_lT, isq_tB, isq_lB, len_tIs, len_fIs, len_tT, len_lT, len_tB, len_lB, en_tIs, en_fIs, en_tT, en_lT, en_tB, en_lB, tup_tIs, tup_fIs, tup_tT, tup_lT, tup_tB, tup_lB, lst_tIs, lst_fIs, lst_tT, lst_lT, lst_tB, lst_lB, Tg_0, Tg_1, f_tIs, f_fIs, f_tT, f_lT, f_tB, f_lB, List.getElem?_set, List.getElem?_cons_zero, List.getElem?_cons_succ, List.getElem?_nil, sq_tup, sq_lst, isq_tup, isq_lst, len_tup, len_lst, add_int, le_int, lt_int, ge_int, gt_int, vals_c1, vals_c0, vals_st1, vals_st0, any_bl, all_bl, ix_t0, ix_t1, ix_t2, -getElem?_pos, h10, q, sum_tIs]
theorem st14 {S : List Int} {n : Int} {ρ : Zd.Env} {L : List Int} (h : LS S n ρ) (l1 : 1 ≤ L.length) (l2 : L.length ≤ 4) (hL : ∀ z ∈ L, 0 ≤ z ∧ z ≤ 3) (h10 : ρ[10]? = some (sv (tIs L))) (h18 : ρ[18]? = some (sv (kpt L))) : ∃ ρ', S_law_14 ρ = .ok (ρ', .nx) ∧ LS S n ρ' := by
  obtain ⟨ρ', e1, e2, _⟩ := fl_inv (g := gNm 3) (body := (dIte (dBl (d2 neD (oV (dCall F_rows_kept (aCons (oPl 3) (aCons (oPl 10) aNil)))) (oV (dIf (dBl (d2 eqD (oV (d2 ixD (oPl 3) (oV (dC (.int 0))))) (oV (dC (.str "window"))))) (dL minD (aCons (oLst (aCons (oV (d2 ixD (oPl 3) (oV (dC (.int 1))))) (aCons (oV (dL sum2D (aCons (oPl 10) aNil))) aNil))) aNil)) (d2 ixD2 (oPl 18) (oV (d2 ixD (oPl 3) (oV (dC (.int 0)))))))))) (dRet (dC (.bl false))) (dEnd .nx)))
    (fun ρ => LS S n ρ ∧ ρ[10]? = some (sv (tIs L)) ∧ ρ[18]? = some (sv (kpt L))) ([Me.all, .last, .win 0, .win 3, .win 12].map Me.d) (fun d hd ρ hI => by
      obtain ⟨m, hm, rfl⟩ := List.mem_map.mp hd
      obtain ⟨hS, h10, h18⟩ := hI
      have hl := hS.len
      have hok : m.ok := by
        simp only [List.mem_cons, List.not_mem_nil, or_false] at hm
        rcases hm with rfl | rfl | rfl | rfl | rfl
        · trivial
        · trivial
        · show 0 ≤ 12; omega
        · show 3 ≤ 12; omega
        · show 12 ≤ 12; omega
      refine ⟨ρ.set 3 (sv m.d), ρ.set 3 (sv m.d), rfl, ?_, hS.set (by decide) rfl, by simp [cfOf, startE, fin_, outsOf, retag, findTag, dRet, dSeq, dEnd, dNever, dIte, dIf, dDrop, dFld, dSet, toB, dC, dName, dBl, dNot, dAnd, dOr, tAndD, tOrD, tNotD, dTru, dBoolC, boolD, dIsi, dIsi2, dIsC, tyN, isN, d2, d3, oV, oPl, aNil, aCons, aStar, argB, argsB, ownPl, nodupB, wb, wb1, dCall, dMeth, oMake, oMake0, dSetFld, res, resAll, bV_val, bV_own, tD_lst, tD_ins, vals, dL, dLV, dTup, dLst, oLst, sz, ofO, i0D, iD, truD, dFz, R.bind, dAsg, gTp, gsCons, gsNil, gNm, dPar, setAll, dAug, dSetIx, isOwn, dApp, dFor, iVals, iRes, iSeq, dSl, pNo, pSome, dNeg, fdivD, modD, powD, mulA, mulI, absD, intD, max2D, min2D, max3D, min3D, isND, notND, dRaise, dDict, okP, flp, sq_tIs, sq_fIs, sq_tT, sq_lT, sq_tB, sq_lB, isq_tIs, isq_fIs, isq_tT, isq_lT, isq_tB, isq_lB, len_tIs, len_fIs, len_tT, len_lT, len_tB, len_lB, en_tIs, en_fIs, en_tT, en_lT, en_tB, en_lB, tup_tIs, tup_fIs, tup_tT, tup_lT, tup_tB, tup_lB, lst_tIs, lst_fIs, lst_tT, lst_lT, lst_tB, lst_lB, Tg_0, Tg_1, f_tIs, f_fIs, f_tT, f_lT, f_tB, f_lB, List.getElem?_set, List.getElem?_cons_zero, List.getElem?_cons_succ, List.getElem?_nil, sq_tup, sq_lst, isq_tup, isq_lst, len_tup, len_lst, add_int, le_int, lt_int, ge_int, gt_int, vals_c1, vals_c0, vals_st1, vals_st0, any_bl, all_bl, ix_t0, ix_t1, ix_t2, -getElem?_pos, h10], by simp [cfOf, startE, fin_, outsOf, retag, findTag, dRet, dSeq, dEnd, dNever, dIte, dIf, dDrop, dFld, dSet, toB, dC, dName, dBl, dNot, dAnd, dOr, tAndD, tOrD, tNotD, dTru, dBoolC, boolD, dIsi, dIsi2, dIsC, tyN, isN, d2, d3, oV, oPl, aNil, aCons, aStar, argB, argsB, ownPl, nodupB, wb, wb1, dCall, dMeth, oMake, oMake0, dSetFld, res, resAll, bV_val, bV_own, tD_lst, tD_ins, vals, dL, dLV, dTup, dLst, oLst, sz, ofO, i0D, iD, truD, dFz, R.bind, dAsg, gTp, gsCons, gsNil, gNm, dPar, setAll, dAug, dSetIx, isOwn, dApp, dFor, iVals, iRes, iSeq, dSl, pNo, pSome, dNeg, fdivD, modD, powD, mulA, mulI, absD, intD, max2D, min2D, max3D, min3D, isND, notND, dRaise, dDict, okP, flp, sq_tIs, sq_fIs, sq_tT, sq_lT, sq_tB, sq_lB, isq_tIs, isq_fIs, isq_tT, isq_lT, isq_tB, isq_lB, len_tIs, len_fIs, len_tT, len_lT, len_tB, len_lB, en_tIs, en_fIs, en_tT, en_lT, en_tB, en_lB, tup_tIs, tup_fIs, tup_tT, tup_lT, tup_tB, tup_lB, lst_tIs, lst_fIs, lst_tT, lst_lT, lst_tB, lst_lB, Tg_0, Tg_1, f_tIs, f_fIs, f_tT, f_lT, f_tB, f_lB, List.getElem?_set, List.getElem?_cons_zero, List.getElem?_cons_succ, List.getElem?_nil, sq_tup, sq_lst, isq_tup, isq_lst, len_tup, len_lst, add_int, le_int, lt_int, ge_int, gt_int, vals_c1, vals_c0, vals_st1, vals_st0, any_bl, all_bl, ix_t0, ix_t1, ix_t2, -getElem?_pos, h18]⟩
      have hk := f_rows_kept hok l1 l2 hL
      have i0 := hd_ix m
      have i2 := hd_win m
      cases m with
      | all =>
        have g0 : ixD2 (kpt L) (.str Me.all.hd) = some (.int (rk .all L)) := by
          show ((keyD (.str "all")).bind (getK _ _)) = _
          have : getK [.inr "all", .inr "last"] [.int L.sum, .int ((L.filter fun z => decide (0 < z)).length : Nat)] (.inr "all") = some (D.int L.sum) := by kernel_rfl
          exact this
        generalize kpt L = KP at *
        generalize rk Me.all L = x at *
        generalize Me.all.d = md at *
        simp [cfOf, startE, fin_, outsOf, retag, findTag, dRet, dSeq, dEnd, dNever, dIte, dIf, dDrop, dFld, dSet, toB, dC, dName, dBl, dNot, dAnd, dOr, tAndD, tOrD, tNotD, dTru, dBoolC, boolD, dIsi, dIsi2, dIsC, tyN, isN, d2, d3, oV, oPl, aNil, aCons, aStar, argB, argsB, ownPl, nodupB, wb, wb1, dCall, dMeth, oMake, oMake0, dSetFld, res, resAll, bV_val, bV_own, tD_lst, tD_ins, vals, dL, dLV, dTup, dLst, oLst, sz, ofO, i0D, iD, truD, dFz, R.bind, dAsg, gTp, gsCons, gsNil, gNm, dPar, setAll, dAug, dSetIx, isOwn, dApp, dFor, iVals, iRes, iSeq, dSl, pNo, pSome, dNeg, fdivD, modD, powD, mulA, mulI, absD, intD, max2D, min2D, max3D, min3D, isND, notND, dRaise, dDict, okP, flp, sq_tIs, sq_fIs, sq_tT, sq_lT, sq_tB, sq_lB, isq_tIs, isq_fIs, isq_tT, isq_lT, isq_tB, isq_lB, len_tIs, len_fIs, len_tT, len_lT, len_tB, len_lB, en_tIs, en_fIs, en_tT, en_lT, en_tB, en_lB, tup_tIs, tup_fIs, tup_tT, tup_lT, tup_tB, tup_lB, lst_tIs, lst_fIs, lst_tT, lst_lT, lst_tB, lst_lB, Tg_0, Tg_1, f_tIs, f_fIs, f_tT, f_lT, f_tB, f_lB, List.getElem?_set, List.getElem?_cons_zero, List.getElem?_cons_succ, List.getElem?_nil, sq_tup, sq_lst, isq_tup, isq_lst, len_tup, len_lst, add_int, le_int, lt_int, ge_int, gt_int, vals_c1, vals_c0, vals_st1, vals_st0, any_bl, all_bl, ix_t0, ix_t1, ix_t2, -getElem?_pos, h10, h18, hl, hk, i0, i2, Me.isWin, ne_int, g0]
      | last =>
        have g0 : ixD2 (kpt L) (.str Me.last.hd) = some (.int (rk .last L)) := by
          show ((keyD (.str "last")).bind (getK _ _)) = _
          have : getK [.inr "all", .inr "last"] [.int L.sum, .int ((L.filter fun z => decide (0 < z)).length : Nat)] (.inr "last") = some (D.int ((L.filter fun z => decide (0 < z)).length : Nat)) := by kernel_rfl
          exact this
        generalize kpt L = KP at *
        generalize rk Me.last L = x at *
        generalize Me.last.d = md at *
        simp [cfOf, startE, fin_, outsOf, retag, findTag, dRet, dSeq, dEnd, dNever, dIte, dIf, dDrop, dFld, dSet, toB, dC, dName, dBl, dNot, dAnd, dOr, tAndD, tOrD, tNotD, dTru, dBoolC, boolD, dIsi, dIsi2, dIsC, tyN, isN, d2, d3, oV, oPl, aNil, aCons, aStar, argB, argsB, ownPl, nodupB, wb, wb1, dCall, dMeth, oMake, oMake0, dSetFld, res, resAll, bV_val, bV_own, tD_lst, tD_ins, vals, dL, dLV, dTup, dLst, oLst, sz, ofO, i0D, iD, truD, dFz, R.bind, dAsg, gTp, gsCons, gsNil, gNm, dPar, setAll, dAug, dSetIx, isOwn, dApp, dFor, iVals, iRes, iSeq, dSl, pNo, pSome, dNeg, fdivD, modD, powD, mulA, mulI, absD, intD, max2D, min2D, max3D, min3D, isND, notND, dRaise, dDict, okP, flp, sq_tIs, sq_fIs, sq_tT, sq_lT, sq_tB, sq_lB, isq_tIs, isq_fIs, isq_tT, isq_lT, isq_tB, isq_lB, len_tIs, len_fIs, len_tT, len_lT, len_tB, len_lB, en_tIs, en_fIs, en_tT, en_lT, en_tB, en_lB, tup_tIs, tup_fIs, tup_tT, tup_lT, tup_tB, tup_lB, lst_tIs, lst_fIs, lst_tT, lst_lT, lst_tB, lst_lB, Tg_0, Tg_1, f_tIs, f_fIs, f_tT, f_lT, f_tB, f_lB, List.getElem?_set, List.getElem?_cons_zero, List.getElem?_cons_succ, List.getElem?_nil, sq_tup, sq_lst, isq_tup, isq_lst, len_tup, len_lst, add_int, le_int, lt_int, ge_int, gt_int, vals_c1, vals_c0, vals_st1, vals_st0, any_bl, all_bl, ix_t0, ix_t1, ix_t2, -getElem?_pos, h10, h18, hl, hk, i0, i2, Me.isWin, ne_int, g0]
      | win w =>
        have iw : ixD (Me.win w).d (.int 1) = some (.int w) := rfl
        have e0 : minD [.lst [.int w, .int L.sum]] = some (.int (rk (.win w) L)) := rfl
        generalize rk (Me.win w) L = x at *
        generalize (Me.win w).d = md at *
        simp [cfOf, startE, fin_, outsOf, retag, findTag, dRet, dSeq, dEnd, dNever, dIte, dIf, dDrop, dFld, dSet, toB, dC, dName, dBl, dNot, dAnd, dOr, tAndD, tOrD, tNotD, dTru, dBoolC, boolD, dIsi, dIsi2, dIsC, tyN, isN, d2, d3, oV, oPl, aNil, aCons, aStar, argB, argsB, ownPl, nodupB, wb, wb1, dCall, dMeth, oMake, oMake0, dSetFld, res, resAll, bV_val, bV_own, tD_lst, tD_ins, vals, dL, dLV, dTup, dLst, oLst, sz, ofO, i0D, iD, truD, dFz, R.bind, dAsg, gTp, gsCons, gsNil, gNm, dPar, setAll, dAug, dSetIx, isOwn, dApp, dFor, iVals, iRes, iSeq, dSl, pNo, pSome, dNeg, fdivD, modD, powD, mulA, mulI, absD, intD, max2D, min2D, max3D, min3D, isND, notND, dRaise, dDict, okP, flp, sq_tIs, sq_fIs, sq_tT, sq_lT, sq_tB, sq_lB, isq_tIs, isq_fIs, isq_tT, isq_lT, isq_tB, isq_lB, len_tIs, len_fIs, len_tT, len_lT, len_tB, len_lB, en_tIs, en_fIs, en_tT, en_lT, en_tB, en_lB, tup_tIs, tup_fIs, tup_tT, tup_lT, tup_tB, tup_lB, lst_tIs, lst_fIs, lst_tT, lst_lT, lst_tB, lst_lB, Tg_0, Tg_1, f_tIs, f_fIs, f_tT, f_lT, f_tB, f_lB, List.getElem?_set, List.getElem?_cons_zero, List.getElem?_cons_succ, List.getElem?_nil, sq_tup, sq_lst, isq_tup, isq_lst, len_tup, len_lst, add_int, le_int, lt_int, ge_int, gt_int, vals_c1, vals_c0, vals_st1, vals_st0, any_bl, all_bl, ix_t0, ix_t1, ix_t2, -getElem?_pos, h10, h18, hl, hk, i0, i2, Me.isWin, ne_int, iw, sum_tIs, e0])
    ρ ⟨h, h10, h18⟩
  refine ⟨ρ', ?_, e2⟩
  rw [← e1]
  unfold S_law_14
  rfl
end A
end
section
namespace A
open PySem Zd
set_option autoImplicit false
/-! ### rows that may come are judged just by whoever keeps all, by whoever keeps the last -/
theorem due_none {m : Me} {C : List Pt} (H : ∀ pre t rest E, C = pre ++ t :: rest → (∀ z, z ∈ E ↔ z ∈ pre) → kn m E t = decide (t ∈ pre)) : due m C = none := by
  have key : ∀ (rest pre E : List Pt), C = pre ++ rest → (∀ z, z ∈ E ↔ z ∈ pre) → ∀ p ∈ enL pre.length (run m E rest), dif C p = false := by
    intro rest
    induction rest with
    | nil => intro pre E _ _ p hp; cases hp
    | cons t rest ih =>
      intro pre E hC hE p hp
      have hk := H pre t rest E hC hE
      have hp : p ∈ (pre.length, !kn m E t) :: enL (pre.length + 1) (run m (if kn m E t = true then E else E ++ [t]) rest) := hp
      rcases List.mem_cons.mp hp with rfl | hp
      · have e : fst1 C pre.length = !decide (t ∈ pre) := by
          unfold fst1
          rw [hC]
          simp
        show (!decide ((!kn m E t) = fst1 C pre.length)) = false
        rw [e, hk]; simp
      · refine ih (pre ++ [t]) _ (by rw [hC]; simp) (fun z => ?_) p (by rw [List.length_append]; exact hp)
        rw [hk]
        by_cases ht : t ∈ pre
        · simp only [ht, decide_true, if_true]
          rw [hE z, List.mem_append, List.mem_singleton]
          exact ⟨.inl, fun h => h.elim id fun e => e ▸ ht⟩
        · simp only [ht, decide_false]
          simp [hE z]
  refine List.find?_eq_none.mpr fun p hp => ?_
  have := key C [] [] rfl (fun z => Iff.rfl) p hp
  simp [this]
theorem due_all (C : List Pt) : due .all C = none := due_none fun pre t rest E _ hE => by
  show decide (t ∈ E) = _
  simp [hE t]
theorem can_at {L : List Int} {t g : Int} {C : List Pt} (h : canA L t g C = true) {pre rest : List Pt} {x : Pt} (e : C = pre ++ x :: rest) : can1 L t g pre x = true := by
  unfold canA at h
  rw [Option.isNone_iff_eq_none, List.find?_eq_none] at h
  have hm : (pre.length, x) ∈ enL 0 C := by
    rw [e]
    have : ∀ (pre : List Pt) (k : Nat), (k + pre.length, x) ∈ enL k (pre ++ x :: rest) := by
      intro pre
      induction pre with
      | nil => intro k; exact List.mem_cons_self
      | cons y pre ih =>
        intro k
        have := ih (k + 1)
        rw [show k + 1 + pre.length = k + (y :: pre).length by simp; omega] at this
        exact List.mem_cons_of_mem _ this
    have := this pre 0
    rwa [Nat.zero_add] at this
  have := h _ hm
  have ht : C.take pre.length = pre := by rw [e]; simp
  simpa [ht] using this
theorem due_last {L : List Int} {t g : Int} {C : List Pt} (h : canA L t g C = true) (h0 : ∀ p ∈ C, 0 ≤ p.2) : due .last C = none := due_none fun pre x rest E e hE => by
  -- closed under the one before
  have cl : ∀ (k : Nat) (c n : Int), 0 ≤ n → (c, n + k) ∈ pre → (c, n) ∈ pre := by
    intro k
    induction k with
    | zero => intro c n _ hm; simpa using hm
    | succ k ih =>
      intro c n hn hm
      obtain ⟨a, b, hab⟩ := List.append_of_mem hm
      have hc := can_at h (pre := a) (x := (c, n + ((k + 1 : Nat) : Int))) (rest := b ++ x :: rest) (by rw [e, hab]; simp)
      unfold can1 at hc
      have hb : badB a (c, n + ((k + 1 : Nat) : Int)) = false := by
        cases hb : badB a (c, n + ((k + 1 : Nat) : Int)) with
        | false => rfl
        | true => rw [hb] at hc; simp at hc
      unfold badB at hb
      have h1 : decide (0 < n + ((k + 1 : Nat) : Int)) = true := by simp; omega
      simp only [h1, Bool.true_and, Bool.not_eq_false', decide_eq_true_eq] at hb
      have h2 : n + ((k + 1 : Nat) : Int) - 1 = n + (k : Int) := by omega
      rw [h2] at hb
      exact ih c n hn (by rw [hab]; exact List.mem_append_left _ hb)
  have hx : 0 ≤ x.2 := h0 x (by rw [e]; simp)
  show (E.any fun l => decide (l.1 = x.1) && decide (x.2 ≤ l.2)) = decide (x ∈ pre)
  rw [Bool.eq_iff_iff, List.any_eq_true, decide_eq_true_eq]
  constructor
  · rintro ⟨l, hl, h2⟩
    simp at h2
    have hl := (hE l).mp hl
    have := cl (l.2 - x.2).toNat x.1 x.2 hx (by
      have : x.2 + ((l.2 - x.2).toNat : Int) = l.2 := by omega
      rw [this, ← h2.1]; exact hl)
    exact this
  · intro hm
    exact ⟨x, (hE x).mpr hm, by simp⟩
def T9 (p : Pt) : Prop := 0 ≤ p.1 ∧ p.1 ≤ 3 ∧ 0 ≤ p.2 ∧ p.2 ≤ 2
theorem T9.ok {p : Pt} (h : T9 p) : TagOk p := ⟨h.1, h.2.1, h.2.2.1, by have := h.2.2.2; omega⟩
theorem st12 {ρ : Zd.Env} {L : List Int} {t g : Int} {C : List Pt} (l1 : 1 ≤ L.length) (l2 : L.length ≤ 4) (hL : ∀ z ∈ L, 0 ≤ z ∧ z ≤ 3) (t1 : 1 ≤ t) (t2 : t ≤ 3) (g1 : 0 ≤ g) (g2 : g ≤ 12) (h : ∀ p ∈ C, T9 p) (hC : C.length ≤ 24) (hc : canA L t g C = true)
    (h13 : ρ[13]? = some (sv (tT C))) (h10 : ρ[10]? = some (sv (tIs L))) (h11 : ρ[11]? = some (some (iv t))) (h12 : ρ[12]? = some (some (iv g))) : S_law_12 ρ = .ok (ρ, .nx) := by
  have e1 := f_are_coming (t := t) (g := g) l1 l2 hL t1 t2 g1 g2 (fun p hp => (h p hp).ok) hC
  have e2 := f_judge (m := .all) trivial hC (fun p hp => (h p hp).ok)
  have e3 := f_judge (m := .last) trivial hC (fun p hp => (h p hp).ok)
  rw [due_all] at e2
  rw [due_last hc fun p hp => (h p hp).2.2.1] at e3
  rw [hc] at e1
  have ea : D.tup [.str "all"] = Me.all.d := rfl
  have el : D.tup [.str "last"] = Me.last.d := rfl
  simp only [toldD] at e2 e3
  unfold S_law_12
  simp [cfOf, startE, fin_, outsOf, retag, findTag, dRet, dSeq, dEnd, dNever, dIte, dIf, dDrop, dFld, dSet, toB, dC, dName, dBl, dNot, dAnd, dOr, tAndD, tOrD, tNotD, dTru, dBoolC, boolD, dIsi, dIsi2, dIsC, tyN, isN, d2, d3, oV, oPl, aNil, aCons, aStar, argB, argsB, ownPl, nodupB, wb, wb1, dCall, dMeth, oMake, oMake0, dSetFld, res, resAll, bV_val, bV_own, tD_lst, tD_ins, vals, dL, dLV, dTup, dLst, oLst, sz, ofO, i0D, iD, truD, dFz, R.bind, dAsg, gTp, gsCons, gsNil, gNm, dPar, setAll, dAug, dSetIx, isOwn, dApp, dFor, iVals, iRes, iSeq, dSl, pNo, pSome, dNeg, fdivD, modD, powD, mulA, mulI, absD, intD, max2D, min2D, max3D, min3D, isND, notND, dRaise, dDict, okP, flp, sq_tIs, sq_fIs, sq_tT, sq_lT, sq_tB, sq_lB, isq_tIs, isq_fIs, isq_tT, isq_lT, isq_tB, isq_lB, len_tIs, len_fIs, len_tT, len_lT, len_tB, len_lB, en_tIs, en_fIs, en_tT, en_lT, en_tB, en_lB, tup_tIs, tup_fIs, tup_tT, tup_lT, tup_tB, tup_lB, lst_tIs, lst_fIs, lst_tT, lst_lT, lst_tB, lst_lB, Tg_0, Tg_1, f_tIs, f_fIs, f_tT, f_lT, f_tB, f_lB, List.getElem?_set, List.getElem?_cons_zero, List.getElem?_cons_succ, List.getElem?_nil, sq_tup, sq_lst, isq_tup, isq_lst, len_tup, len_lst, add_int, le_int, lt_int, ge_int, gt_int, vals_c1, vals_c0, vals_st1, vals_st0, any_bl, all_bl, ix_t0, ix_t1, ix_t2, -getElem?_pos, h10, h11, h12, h13, e1, e2, e3, ea, el, M_bool, f_jb]
end A
end
section
namespace A
open PySem Zd
set_option autoImplicit false
def fineC (L : List Int) (t g : Int) (Rw : List Pt) (c : Nat) : List Pt := ((List.range (lgt L c).toNat).filter fun i : Nat => canA L t g (Rw ++ [((c : Int), (i : Int))])).map fun i : Nat => ((c : Int), (i : Int))
def fineL (L : List Int) (t g : Int) (Rw : List Pt) : List Pt := ((List.range L.length).map (fineC L t g Rw)).flatten
theorem lgt_mem {L : List Int} {c : Nat} (h : c < L.length) : lgt L c ∈ L := by
  unfold lgt
  rw [Int.toNat_natCast, List.getElem?_eq_getElem h]
  exact List.getElem_mem h
theorem fineC_mem {L : List Int} {t g : Int} {Rw : List Pt} {c : Nat} {p : Pt} (h : p ∈ fineC L t g Rw c) : p.1 = c ∧ 0 ≤ p.2 ∧ p.2 < lgt L c ∧ canA L t g (Rw ++ [p]) = true := by
  unfold fineC at h
  obtain ⟨i, hi, rfl⟩ := List.mem_map.mp h
  obtain ⟨h1, h2⟩ := List.mem_filter.mp hi
  have := List.mem_range.mp h1
  exact ⟨rfl, by show (0 : Int) ≤ (i : Int); omega, by show (i : Int) < _; omega, h2⟩
theorem fineL_mem {L : List Int} {t g : Int} {Rw : List Pt} {p : Pt} (l2 : L.length ≤ 4) (hL : ∀ z ∈ L, 0 ≤ z ∧ z ≤ 3) (h : p ∈ fineL L t g Rw) : T9 p ∧ canA L t g (Rw ++ [p]) = true := by
  unfold fineL at h
  obtain ⟨l, hl, hp⟩ := List.mem_flatten.mp h
  obtain ⟨c, hc, rfl⟩ := List.mem_map.mp hl
  have hc := List.mem_range.mp hc
  obtain ⟨h1, h2, h3, h4⟩ := fineC_mem hp
  have := hL _ (lgt_mem hc)
  exact ⟨⟨by omega, by omega, h2, by omega⟩, h4⟩
theorem flat_len {f : Nat → List Pt} {b : Nat} : ∀ (xs : List Nat), (∀ c ∈ xs, (f c).length ≤ b) → ((xs.map f).flatten).length ≤ b * xs.length
  | [], _ => by simp
  | x :: xs, h => by
    have ih := flat_len (f := f) (b := b) xs (fun c hc => h c (List.mem_cons_of_mem _ hc))
    have := h x List.mem_cons_self
    simp only [List.map_cons, List.flatten_cons, List.length_append, List.length_cons, Nat.mul_add, Nat.mul_one]
    omega
theorem fineL_len {L : List Int} {t g : Int} {Rw : List Pt} (l2 : L.length ≤ 4) (hL : ∀ z ∈ L, 0 ≤ z ∧ z ≤ 3) : (fineL L t g Rw).length ≤ 12 := by
  have := flat_len (f := fineC L t g Rw) (b := 3) (List.range L.length) (fun c hc => by
    have hc := List.mem_range.mp hc
    have := hL _ (lgt_mem hc)
    unfold fineC
    rw [List.length_map]
    exact Nat.le_trans (List.length_filter_le _ _) (by rw [List.length_range]; omega))
  rw [List.length_range] at this
  unfold fineL
  omega
theorem lists_map {α : Type} (f : α → List D) : ∀ L : List α, listsD (L.map fun c => .lst (f c)) = some (L.map f)
  | [] => rfl
  | x :: L => by simp [listsD, lists_map f L]
def lcIn : DOn := (oLc (iRes rng1 (aCons (oV (d2 ixD (oPl 10) (oPl 15))) aNil)) [14] (gNm 14) (dTru M_bool (oV (dCall F__law_can (aCons (oPl 10) (aCons (oPl 11) (aCons (oPl 12) (aCons (oV (d2 addD (oPl 13) (oV (dTup (aCons (oV (dTup (aCons (oV (dName 15)) (aCons (oV (dName 14)) aNil)))) aNil))))) aNil))))))) (dTup (aCons (oV (dName 15)) (aCons (oV (dName 14)) aNil))))
def lcOut : DOn := (oLc (iRes rng1 (aCons (oV (dL lenD (aCons (oPl 10) aNil))) aNil)) [15] (gNm 15) tTrue (dFz lcIn))
def bRow : DSn := (dSeq (dSet 16 (oV (dLV sumLD (aCons (oV (dFz lcOut)) (aCons (oV (dLst aNil)) aNil)))))
    (dSet 13 (oV (d2 addD (oPl 13) (oV (dIf (dBl (d2 neD (oPl 16) (oLst aNil))) (dTup (aCons (oV (dCall F__law_pick (aCons (oPl 1) (aCons (oPl 16) aNil)))) aNil)) (dTup aNil)))))))
structure RI (S : List Int) (L : List Int) (t g : Int) (k : Nat) (ρ : Zd.Env) : Prop where
  ls : ∃ n, LS S n ρ
  r10 : ρ[10]? = some (sv (tIs L))
  r11 : ρ[11]? = some (some (iv t))
  r12 : ρ[12]? = some (some (iv g))
  r13 : ∃ Rw : List Pt, ρ[13]? = some (sv (tT Rw)) ∧ Rw.length ≤ k ∧ (∀ p ∈ Rw, T9 p) ∧ canA L t g Rw = true
theorem lc_out {S L : List Int} {t g n : Int} {Rw : List Pt} {ρ : Zd.Env} (l2 : L.length ≤ 4) (hL : ∀ z ∈ L, 0 ≤ z ∧ z ≤ 3) (hS : LS S n ρ) (g10 : ρ[10]? = some (sv (tIs L))) (g11 : ρ[11]? = some (some (iv t))) (g12 : ρ[12]? = some (some (iv g))) (g13 : ρ[13]? = some (sv (tT Rw))) (hR : Rw.length ≤ 100) (hT : ∀ p ∈ Rw, T9 p) :
    lcOut ρ = .ok (ρ, .fr (.lst ((List.range L.length).map fun c => .lst ((fineC L t g Rw c).map Tg)))) := by
  have hl := hS.len
  have q := lc_1 (v := 15) (ρ0 := ρ) (ρ := ρ) (di := (iRes rng1 (aCons (oV (dL lenD (aCons (oPl 10) aNil))) aNil))) (t := tTrue) (c := dFz lcIn) (L := List.range L.length) (fun i : Nat => D.int (i : Int)) (fun _ => true) (fun c : Nat => D.lst ((fineC L t g Rw c).map Tg))
    (by omega) (hS.no (by decide)) (by
      have hnr : near (L.length : Int) = true := near_ok (by omega) (by omega)
      have hr : rngL 0 1 L.length = (List.range L.length).map fun i : Nat => D.int (i : Int) := by simp [rngL]
      simp [cfOf, startE, fin_, outsOf, retag, findTag, dRet, dSeq, dEnd, dNever, dIte, dIf, dDrop, dFld, dSet, toB, dC, dName, dBl, dNot, dAnd, dOr, tAndD, tOrD, tNotD, dTru, dBoolC, boolD, dIsi, dIsi2, dIsC, tyN, isN, d2, d3, oV, oPl, aNil, aCons, aStar, argB, argsB, ownPl, nodupB, wb, wb1, dCall, dMeth, oMake, oMake0, dSetFld, res, resAll, bV_val, bV_own, tD_lst, tD_ins, vals, dL, dLV, dTup, dLst, oLst, sz, ofO, i0D, iD, truD, dFz, R.bind, dAsg, gTp, gsCons, gsNil, gNm, dPar, setAll, dAug, dSetIx, isOwn, dApp, dFor, iVals, iRes, iSeq, dSl, pNo, pSome, dNeg, fdivD, modD, powD, mulA, mulI, absD, intD, max2D, min2D, max3D, min3D, isND, notND, dRaise, dDict, okP, flp, sq_tIs, sq_fIs, sq_tT, sq_lT, sq_tB, sq_lB, isq_tIs, isq_fIs, isq_tT, isq_lT, isq_tB, isq_lB, len_tIs, len_fIs, len_tT, len_lT, len_tB, len_lB, en_tIs, en_fIs, en_tT, en_lT, en_tB, en_lB, tup_tIs, tup_fIs, tup_tT, tup_lT, tup_tB, tup_lB, lst_tIs, lst_fIs, lst_tT, lst_lT, lst_tB, lst_lB, Tg_0, Tg_1, f_tIs, f_fIs, f_tT, f_lT, f_tB, f_lB, List.getElem?_set, List.getElem?_cons_zero, List.getElem?_cons_succ, List.getElem?_nil, sq_tup, sq_lst, isq_tup, isq_lst, len_tup, len_lst, add_int, le_int, lt_int, ge_int, gt_int, vals_c1, vals_c0, vals_st1, vals_st0, any_bl, all_bl, ix_t0, ix_t1, ix_t2, -getElem?_pos, g10, rng1, hnr, hr])
    (fun c hc => rfl)
    (fun c hc _ => by
      have hc := List.mem_range.mp hc
      have hb := hL _ (lgt_mem hc)
      have hS2 := hS.set (i := 15) (x := sv (.int (c : Int))) (by decide) rfl
      have q2 := lc_1 (v := 14) (ρ0 := ρ.set 15 (sv (.int (c : Int)))) (ρ := ρ.set 15 (sv (.int (c : Int)))) (di := (iRes rng1 (aCons (oV (d2 ixD (oPl 10) (oPl 15))) aNil))) (t := (dTru M_bool (oV (dCall F__law_can (aCons (oPl 10) (aCons (oPl 11) (aCons (oPl 12) (aCons (oV (d2 addD (oPl 13) (oV (dTup (aCons (oV (dTup (aCons (oV (dName 15)) (aCons (oV (dName 14)) aNil)))) aNil))))) aNil)))))))) (c := (dTup (aCons (oV (dName 15)) (aCons (oV (dName 14)) aNil)))) (L := List.range (lgt L c).toNat) (fun i : Nat => D.int (i : Int)) (fun i => canA L t g (Rw ++ [((c : Int), (i : Int))])) (fun i : Nat => Tg ((c : Int), (i : Int)))
        (by simp [hl]) (hS2.no (by decide)) (by
          have hnr : near (lgt L c) = true := near_ok (by omega) (by omega)
          have hr : rngL 0 1 (lgt L c).toNat = (List.range (lgt L c).toNat).map fun i : Nat => D.int (i : Int) := by simp [rngL]
          have hx := ixi_tIs (L := L) (k := (c : Int)) (by omega) (by omega)
          simp [cfOf, startE, fin_, outsOf, retag, findTag, dRet, dSeq, dEnd, dNever, dIte, dIf, dDrop, dFld, dSet, toB, dC, dName, dBl, dNot, dAnd, dOr, tAndD, tOrD, tNotD, dTru, dBoolC, boolD, dIsi, dIsi2, dIsC, tyN, isN, d2, d3, oV, oPl, aNil, aCons, aStar, argB, argsB, ownPl, nodupB, wb, wb1, dCall, dMeth, oMake, oMake0, dSetFld, res, resAll, bV_val, bV_own, tD_lst, tD_ins, vals, dL, dLV, dTup, dLst, oLst, sz, ofO, i0D, iD, truD, dFz, R.bind, dAsg, gTp, gsCons, gsNil, gNm, dPar, setAll, dAug, dSetIx, isOwn, dApp, dFor, iVals, iRes, iSeq, dSl, pNo, pSome, dNeg, fdivD, modD, powD, mulA, mulI, absD, intD, max2D, min2D, max3D, min3D, isND, notND, dRaise, dDict, okP, flp, sq_tIs, sq_fIs, sq_tT, sq_lT, sq_tB, sq_lB, isq_tIs, isq_fIs, isq_tT, isq_lT, isq_tB, isq_lB, len_tIs, len_fIs, len_tT, len_lT, len_tB, len_lB, en_tIs, en_fIs, en_tT, en_lT, en_tB, en_lB, tup_tIs, tup_fIs, tup_tT, tup_lT, tup_tB, tup_lB, lst_tIs, lst_fIs, lst_tT, lst_lT, lst_tB, lst_lB, Tg_0, Tg_1, f_tIs, f_fIs, f_tT, f_lT, f_tB, f_lB, List.getElem?_set, List.getElem?_cons_zero, List.getElem?_cons_succ, List.getElem?_nil, sq_tup, sq_lst, isq_tup, isq_lst, len_tup, len_lst, add_int, le_int, lt_int, ge_int, gt_int, vals_c1, vals_c0, vals_st1, vals_st0, any_bl, all_bl, ix_t0, ix_t1, ix_t2, -getElem?_pos, g10, hl, rng1, hnr, hr, hx])
        (fun i hi => by
          have hf := f_law_can (L := L) (t := t) (g := g) (C := Rw ++ [((c : Int), (i : Int))]) (fun p hp => by
            rcases List.mem_append.mp hp with hp | hp
            · exact (hT p hp).1
            · rw [List.mem_singleton.mp hp]; show (0 : Int) ≤ (c : Int); omega) (by simp; omega)
          have ha : addD (tT Rw) (.tup [Tg ((c : Int), (i : Int))]) = some (tT (Rw ++ [((c : Int), (i : Int))])) := add1_tT (by omega)
          generalize tT (Rw ++ [((c : Int), (i : Int))]) = TR at *
          simp [cfOf, startE, fin_, outsOf, retag, findTag, dRet, dSeq, dEnd, dNever, dIte, dIf, dDrop, dFld, dSet, toB, dC, dName, dBl, dNot, dAnd, dOr, tAndD, tOrD, tNotD, dTru, dBoolC, boolD, dIsi, dIsi2, dIsC, tyN, isN, d2, d3, oV, oPl, aNil, aCons, aStar, argB, argsB, ownPl, nodupB, wb, wb1, dCall, dMeth, oMake, oMake0, dSetFld, res, resAll, bV_val, bV_own, tD_lst, tD_ins, vals, dL, dLV, dTup, dLst, oLst, sz, ofO, i0D, iD, truD, dFz, R.bind, dAsg, gTp, gsCons, gsNil, gNm, dPar, setAll, dAug, dSetIx, isOwn, dApp, dFor, iVals, iRes, iSeq, dSl, pNo, pSome, dNeg, fdivD, modD, powD, mulA, mulI, absD, intD, max2D, min2D, max3D, min3D, isND, notND, dRaise, dDict, okP, flp, sq_tIs, sq_fIs, sq_tT, sq_lT, sq_tB, sq_lB, isq_tIs, isq_fIs, isq_tT, isq_lT, isq_tB, isq_lB, len_tIs, len_fIs, len_tT, len_lT, len_tB, len_lB, en_tIs, en_fIs, en_tT, en_lT, en_tB, en_lB, tup_tIs, tup_fIs, tup_tT, tup_lT, tup_tB, tup_lB, lst_tIs, lst_fIs, lst_tT, lst_lT, lst_tB, lst_lB, Tg_0, Tg_1, f_tIs, f_fIs, f_tT, f_lT, f_tB, f_lB, List.getElem?_set, List.getElem?_cons_zero, List.getElem?_cons_succ, List.getElem?_nil, sq_tup, sq_lst, isq_tup, isq_lst, len_tup, len_lst, add_int, le_int, lt_int, ge_int, gt_int, vals_c1, vals_c0, vals_st1, vals_st0, any_bl, all_bl, ix_t0, ix_t1, ix_t2, -getElem?_pos, g10, g11, g12, g13, hl, mk_Tg, ha, hf])
        (fun i hi _ => by simp [cfOf, startE, fin_, outsOf, retag, findTag, dRet, dSeq, dEnd, dNever, dIte, dIf, dDrop, dFld, dSet, toB, dC, dName, dBl, dNot, dAnd, dOr, tAndD, tOrD, tNotD, dTru, dBoolC, boolD, dIsi, dIsi2, dIsC, tyN, isN, d2, d3, oV, oPl, aNil, aCons, aStar, argB, argsB, ownPl, nodupB, wb, wb1, dCall, dMeth, oMake, oMake0, dSetFld, res, resAll, bV_val, bV_own, tD_lst, tD_ins, vals, dL, dLV, dTup, dLst, oLst, sz, ofO, i0D, iD, truD, dFz, R.bind, dAsg, gTp, gsCons, gsNil, gNm, dPar, setAll, dAug, dSetIx, isOwn, dApp, dFor, iVals, iRes, iSeq, dSl, pNo, pSome, dNeg, fdivD, modD, powD, mulA, mulI, absD, intD, max2D, min2D, max3D, min3D, isND, notND, dRaise, dDict, okP, flp, sq_tIs, sq_fIs, sq_tT, sq_lT, sq_tB, sq_lB, isq_tIs, isq_fIs, isq_tT, isq_lT, isq_tB, isq_lB, len_tIs, len_fIs, len_tT, len_lT, len_tB, len_lB, en_tIs, en_fIs, en_tT, en_lT, en_tB, en_lB, tup_tIs, tup_fIs, tup_tT, tup_lT, tup_tB, tup_lB, lst_tIs, lst_fIs, lst_tT, lst_lT, lst_tB, lst_lB, Tg_0, Tg_1, f_tIs, f_fIs, f_tT, f_lT, f_tB, f_lB, List.getElem?_set, List.getElem?_cons_zero, List.getElem?_cons_succ, List.getElem?_nil, sq_tup, sq_lst, isq_tup, isq_lst, len_tup, len_lst, add_int, le_int, lt_int, ge_int, gt_int, vals_c1, vals_c0, vals_st1, vals_st0, any_bl, all_bl, ix_t0, ix_t1, ix_t2, -getElem?_pos, hl, mk_Tg]) (by simp; omega)
      have q2 : lcIn _ = _ := q2
      have ef : ((List.range (lgt L c).toNat).filter fun i : Nat => canA L t g (Rw ++ [((c : Int), (i : Int))])).map (fun i : Nat => Tg ((c : Int), (i : Int))) = (fineC L t g Rw c).map Tg := by
        unfold fineC
        rw [List.map_map]; rfl
      rw [ef] at q2
      simp only [dFz, q2, R.bind, OD.toD])
    (by simp; omega)
  have hf : (List.range L.length).filter (fun _ => true) = List.range L.length := by simp
  rw [hf] at q
  exact q
theorem b_row {S L : List Int} {t g : Int} {k : Nat} {ρ : Zd.Env} (l2 : L.length ≤ 4) (hL : ∀ z ∈ L, 0 ≤ z ∧ z ≤ 3) (h : RI S L t g k ρ) (hk : k ≤ 50) : ∃ ρ', bRow ρ = .ok (ρ', .nx) ∧ RI S L t g (k + 1) ρ' := by
  obtain ⟨n, hS⟩ := h.ls
  obtain ⟨Rw, g13, hR, hT, hc⟩ := h.r13
  have g10 := h.r10; have g11 := h.r11; have g12 := h.r12
  have hl := hS.len
  have q := lc_out l2 hL hS g10 g11 g12 g13 (by omega) hT
  have hF : ((List.range L.length).map fun c => (fineC L t g Rw c).map Tg).flatten = (fineL L t g Rw).map Tg := by
    unfold fineL
    rw [List.map_flatten, List.map_map]; rfl
  have hlen := fineL_len (t := t) (g := g) (Rw := Rw) l2 hL
  have hs : sumLD [.lst ((List.range L.length).map fun c => .lst ((fineC L t g Rw c).map Tg)), .lst []] = some (lT (fineL L t g Rw)) := by
    simp only [sumLD, lists_map (fun c => (fineC L t g Rw c).map Tg), Option.bind_some, hF]
    rw [if_pos (by rw [List.length_map]; omega)]; rfl
  have e1 : dSet 16 (oV (dLV sumLD (aCons (oV (dFz lcOut)) (aCons (oV (dLst aNil)) aNil)))) ρ = .ok (ρ.set 16 (sv (lT (fineL L t g Rw))), .nx) := by
    generalize (List.range L.length).map (fun c => D.lst ((fineC L t g Rw c).map Tg)) = M at *
    simp [cfOf, startE, fin_, outsOf, retag, findTag, dRet, dSeq, dEnd, dNever, dIte, dIf, dDrop, dFld, dSet, toB, dC, dName, dBl, dNot, dAnd, dOr, tAndD, tOrD, tNotD, dTru, dBoolC, boolD, dIsi, dIsi2, dIsC, tyN, isN, d2, d3, oV, oPl, aNil, aCons, aStar, argB, argsB, ownPl, nodupB, wb, wb1, dCall, dMeth, oMake, oMake0, dSetFld, res, resAll, bV_val, bV_own, tD_lst, tD_ins, vals, dL, dLV, dTup, dLst, oLst, sz, ofO, i0D, iD, truD, dFz, R.bind, dAsg, gTp, gsCons, gsNil, gNm, dPar, setAll, dAug, dSetIx, isOwn, dApp, dFor, iVals, iRes, iSeq, dSl, pNo, pSome, dNeg, fdivD, modD, powD, mulA, mulI, absD, intD, max2D, min2D, max3D, min3D, isND, notND, dRaise, dDict, okP, flp, sq_tIs, sq_fIs, sq_tT, sq_lT, sq_tB, sq_lB, isq_tIs, isq_fIs, isq_tT, isq_lT, isq_tB, isq_lB, len_tIs, len_fIs, len_tT, len_lT, len_tB, len_lB, en_tIs, en_fIs, en_tT, en_lT, en_tB, en_lB, tup_tIs, tup_fIs, tup_tT, tup_lT, tup_tB, tup_lB, lst_tIs, lst_fIs, lst_tT, lst_lT, lst_tB, lst_lB, Tg_0, Tg_1, f_tIs, f_fIs, f_tT, f_lT, f_tB, f_lB, List.getElem?_set, List.getElem?_cons_zero, List.getElem?_cons_succ, List.getElem?_nil, sq_tup, sq_lst, isq_tup, isq_lst, len_tup, len_lst, add_int, le_int, lt_int, ge_int, gt_int, vals_c1, vals_c0, vals_st1, vals_st0, any_bl, all_bl, ix_t0, ix_t1, ix_t2, -getElem?_pos, q, hs]
  unfold bRow
  rw [seq_nx e1]
  have hS2 := hS.set (i := 16) (x := sv (lT (fineL L t g Rw))) (by decide) rfl
  have hne := ne_lT (fineL L t g Rw) []
  have e0 : lT [] = .lst [] := rfl
  rw [e0] at hne
  have f1 := hS.d1
  by_cases he : fineL L t g Rw = []
  · refine ⟨(ρ.set 16 (sv (lT (fineL L t g Rw)))).set 13 (sv (tT Rw)), ?_, ⟨n, hS2.set (by decide) rfl⟩, by simp [cfOf, startE, fin_, outsOf, retag, findTag, dRet, dSeq, dEnd, dNever, dIte, dIf, dDrop, dFld, dSet, toB, dC, dName, dBl, dNot, dAnd, dOr, tAndD, tOrD, tNotD, dTru, dBoolC, boolD, dIsi, dIsi2, dIsC, tyN, isN, d2, d3, oV, oPl, aNil, aCons, aStar, argB, argsB, ownPl, nodupB, wb, wb1, dCall, dMeth, oMake, oMake0, dSetFld, res, resAll, bV_val, bV_own, tD_lst, tD_ins, vals, dL, dLV, dTup, dLst, oLst, sz, ofO, i0D, iD, truD, dFz, R.bind, dAsg, gTp, gsCons, gsNil, gNm, dPar, setAll, dAug, dSetIx, isOwn, dApp, dFor, iVals, iRes, iSeq, dSl, pNo, pSome, dNeg, fdivD, modD, powD, mulA, mulI, absD, intD, max2D, min2D, max3D, min3D, isND, notND, dRaise, dDict, okP, flp, sq_tIs, sq_fIs, sq_tT, sq_lT, sq_tB, sq_lB, isq_tIs, isq_fIs, isq_tT, isq_lT, isq_tB, isq_lB, len_tIs, len_fIs, len_tT, len_lT, len_tB, len_lB, en_tIs, en_fIs, en_tT, en_lT, en_tB, en_lB, tup_tIs, tup_fIs, tup_tT, tup_lT, tup_tB, tup_lB, lst_tIs, lst_fIs, lst_tT, lst_lT, lst_tB, lst_lB, Tg_0, Tg_1, f_tIs, f_fIs, f_tT, f_lT, f_tB, f_lB, List.getElem?_set, List.getElem?_cons_zero, List.getElem?_cons_succ, List.getElem?_nil, sq_tup, sq_lst, isq_tup, isq_lst, len_tup, len_lst, add_int, le_int, lt_int, ge_int, gt_int, vals_c1, vals_c0, vals_st1, vals_st0, any_bl, all_bl, ix_t0, ix_t1, ix_t2, -getElem?_pos, g10], by simp [cfOf, startE, fin_, outsOf, retag, findTag, dRet, dSeq, dEnd, dNever, dIte, dIf, dDrop, dFld, dSet, toB, dC, dName, dBl, dNot, dAnd, dOr, tAndD, tOrD, tNotD, dTru, dBoolC, boolD, dIsi, dIsi2, dIsC, tyN, isN, d2, d3, oV, oPl, aNil, aCons, aStar, argB, argsB, ownPl, nodupB, wb, wb1, dCall, dMeth, oMake, oMake0, dSetFld, res, resAll, bV_val, bV_own, tD_lst, tD_ins, vals, dL, dLV, dTup, dLst, oLst, sz, ofO, i0D, iD, truD, dFz, R.bind, dAsg, gTp, gsCons, gsNil, gNm, dPar, setAll, dAug, dSetIx, isOwn, dApp, dFor, iVals, iRes, iSeq, dSl, pNo, pSome, dNeg, fdivD, modD, powD, mulA, mulI, absD, intD, max2D, min2D, max3D, min3D, isND, notND, dRaise, dDict, okP, flp, sq_tIs, sq_fIs, sq_tT, sq_lT, sq_tB, sq_lB, isq_tIs, isq_fIs, isq_tT, isq_lT, isq_tB, isq_lB, len_tIs, len_fIs, len_tT, len_lT, len_tB, len_lB, en_tIs, en_fIs, en_tT, en_lT, en_tB, en_lB, tup_tIs, tup_fIs, tup_tT, tup_lT, tup_tB, tup_lB, lst_tIs, lst_fIs, lst_tT, lst_lT, lst_tB, lst_lB, Tg_0, Tg_1, f_tIs, f_fIs, f_tT, f_lT, f_tB, f_lB, List.getElem?_set, List.getElem?_cons_zero, List.getElem?_cons_succ, List.getElem?_nil, sq_tup, sq_lst, isq_tup, isq_lst, len_tup, len_lst, add_int, le_int, lt_int, ge_int, gt_int, vals_c1, vals_c0, vals_st1, vals_st0, any_bl, all_bl, ix_t0, ix_t1, ix_t2, -getElem?_pos, g11], by simp [cfOf, startE, fin_, outsOf, retag, findTag, dRet, dSeq, dEnd, dNever, dIte, dIf, dDrop, dFld, dSet, toB, dC, dName, dBl, dNot, dAnd, dOr, tAndD, tOrD, tNotD, dTru, dBoolC, boolD, dIsi, dIsi2, dIsC, tyN, isN, d2, d3, oV, oPl, aNil, aCons, aStar, argB, argsB, ownPl, nodupB, wb, wb1, dCall, dMeth, oMake, oMake0, dSetFld, res, resAll, bV_val, bV_own, tD_lst, tD_ins, vals, dL, dLV, dTup, dLst, oLst, sz, ofO, i0D, iD, truD, dFz, R.bind, dAsg, gTp, gsCons, gsNil, gNm, dPar, setAll, dAug, dSetIx, isOwn, dApp, dFor, iVals, iRes, iSeq, dSl, pNo, pSome, dNeg, fdivD, modD, powD, mulA, mulI, absD, intD, max2D, min2D, max3D, min3D, isND, notND, dRaise, dDict, okP, flp, sq_tIs, sq_fIs, sq_tT, sq_lT, sq_tB, sq_lB, isq_tIs, isq_fIs, isq_tT, isq_lT, isq_tB, isq_lB, len_tIs, len_fIs, len_tT, len_lT, len_tB, len_lB, en_tIs, en_fIs, en_tT, en_lT, en_tB, en_lB, tup_tIs, tup_fIs, tup_tT, tup_lT, tup_tB, tup_lB, lst_tIs, lst_fIs, lst_tT, lst_lT, lst_tB, lst_lB, Tg_0, Tg_1, f_tIs, f_fIs, f_tT, f_lT, f_tB, f_lB, List.getElem?_set, List.getElem?_cons_zero, List.getElem?_cons_succ, List.getElem?_nil, sq_tup, sq_lst, isq_tup, isq_lst, len_tup, len_lst, add_int, le_int, lt_int, ge_int, gt_int, vals_c1, vals_c0, vals_st1, vals_st0, any_bl, all_bl, ix_t0, ix_t1, ix_t2, -getElem?_pos, g12], Rw, by simp [cfOf, startE, fin_, outsOf, retag, findTag, dRet, dSeq, dEnd, dNever, dIte, dIf, dDrop, dFld, dSet, toB, dC, dName, dBl, dNot, dAnd, dOr, tAndD, tOrD, tNotD, dTru, dBoolC, boolD, dIsi, dIsi2, dIsC, tyN, isN, d2, d3, oV, oPl, aNil, aCons, aStar, argB, argsB, ownPl, nodupB, wb, wb1, dCall, dMeth, oMake, oMake0, dSetFld, res, resAll, bV_val, bV_own, tD_lst, tD_ins, vals, dL, dLV, dTup, dLst, oLst, sz, ofO, i0D, iD, truD, dFz, R.bind, dAsg, gTp, gsCons, gsNil, gNm, dPar, setAll, dAug, dSetIx, isOwn, dApp, dFor, iVals, iRes, iSeq, dSl, pNo, pSome, dNeg, fdivD, modD, powD, mulA, mulI, absD, intD, max2D, min2D, max3D, min3D, isND, notND, dRaise, dDict, okP, flp, sq_tIs, sq_fIs, sq_tT, sq_lT, sq_tB, sq_lB, isq_tIs, isq_fIs, isq_tT, isq_lT, isq_tB, isq_lB, len_tIs, len_fIs, len_tT, len_lT, len_tB, len_lB, en_tIs, en_fIs, en_tT, en_lT, en_tB, en_lB, tup_tIs, tup_fIs, tup_tT, tup_lT, tup_tB, tup_lB, lst_tIs, lst_fIs, lst_tT, lst_lT, lst_tB, lst_lB, Tg_0, Tg_1, f_tIs, f_fIs, f_tT, f_lT, f_tB, f_lB, List.getElem?_set, List.getElem?_cons_zero, List.getElem?_cons_succ, List.getElem?_nil, sq_tup, sq_lst, isq_tup, isq_lst, len_tup, len_lst, add_int, le_int, lt_int, ge_int, gt_int, vals_c1, vals_c0, vals_st1, vals_st0, any_bl, all_bl, ix_t0, ix_t1, ix_t2, -getElem?_pos, hl], by omega, hT, hc⟩
    have ha : addD (tT Rw) (.tup []) = some (tT Rw) := add0_tT (by omega)
    simp only [he, decide_true, Bool.not_true] at hne
    rw [he] at *
    simp [cfOf, startE, fin_, outsOf, retag, findTag, dRet, dSeq, dEnd, dNever, dIte, dIf, dDrop, dFld, dSet, toB, dC, dName, dBl, dNot, dAnd, dOr, tAndD, tOrD, tNotD, dTru, dBoolC, boolD, dIsi, dIsi2, dIsC, tyN, isN, d2, d3, oV, oPl, aNil, aCons, aStar, argB, argsB, ownPl, nodupB, wb, wb1, dCall, dMeth, oMake, oMake0, dSetFld, res, resAll, bV_val, bV_own, tD_lst, tD_ins, vals, dL, dLV, dTup, dLst, oLst, sz, ofO, i0D, iD, truD, dFz, R.bind, dAsg, gTp, gsCons, gsNil, gNm, dPar, setAll, dAug, dSetIx, isOwn, dApp, dFor, iVals, iRes, iSeq, dSl, pNo, pSome, dNeg, fdivD, modD, powD, mulA, mulI, absD, intD, max2D, min2D, max3D, min3D, isND, notND, dRaise, dDict, okP, flp, sq_tIs, sq_fIs, sq_tT, sq_lT, sq_tB, sq_lB, isq_tIs, isq_fIs, isq_tT, isq_lT, isq_tB, isq_lB, len_tIs, len_fIs, len_tT, len_lT, len_tB, len_lB, en_tIs, en_fIs, en_tT, en_lT, en_tB, en_lB, tup_tIs, tup_fIs, tup_tT, tup_lT, tup_tB, tup_lB, lst_tIs, lst_fIs, lst_tT, lst_lT, lst_tB, lst_lB, Tg_0, Tg_1, f_tIs, f_fIs, f_tT, f_lT, f_tB, f_lB, List.getElem?_set, List.getElem?_cons_zero, List.getElem?_cons_succ, List.getElem?_nil, sq_tup, sq_lst, isq_tup, isq_lst, len_tup, len_lst, add_int, le_int, lt_int, ge_int, gt_int, vals_c1, vals_c0, vals_st1, vals_st0, any_bl, all_bl, ix_t0, ix_t1, ix_t2, -getElem?_pos, g13, hl, hne, ha]
  · obtain ⟨i, hi, hp⟩ := f_pick (S := S) (n := n) (t := 0) (L := (fineL L t g Rw).map Tg) hS.hn (by simpa using he) (by rw [List.length_map]; omega)
    rw [List.length_map] at hi
    have hg : ((fineL L t g Rw).map Tg)[i]'(by rw [List.length_map]; exact hi) = Tg ((fineL L t g Rw)[i]) := List.getElem_map _
    rw [hg] at hp
    have hm := fineL_mem l2 hL (List.getElem_mem hi)
    have hp : F__law_pick [.own 0 (.lst [fIs S, .int 0, .int n]), .val (lT (fineL L t g Rw))] = _ := hp
    generalize (fineL L t g Rw)[i] = x at *
    refine ⟨((ρ.set 16 (sv (lT (fineL L t g Rw)))).set 1 (drw S (n + 1))).set 13 (sv (tT (Rw ++ [x]))), ?_, ⟨n + 1, (hS2.draw (by have := hS.hn; omega)).set (by decide) rfl⟩, by simp [cfOf, startE, fin_, outsOf, retag, findTag, dRet, dSeq, dEnd, dNever, dIte, dIf, dDrop, dFld, dSet, toB, dC, dName, dBl, dNot, dAnd, dOr, tAndD, tOrD, tNotD, dTru, dBoolC, boolD, dIsi, dIsi2, dIsC, tyN, isN, d2, d3, oV, oPl, aNil, aCons, aStar, argB, argsB, ownPl, nodupB, wb, wb1, dCall, dMeth, oMake, oMake0, dSetFld, res, resAll, bV_val, bV_own, tD_lst, tD_ins, vals, dL, dLV, dTup, dLst, oLst, sz, ofO, i0D, iD, truD, dFz, R.bind, dAsg, gTp, gsCons, gsNil, gNm, dPar, setAll, dAug, dSetIx, isOwn, dApp, dFor, iVals, iRes, iSeq, dSl, pNo, pSome, dNeg, fdivD, modD, powD, mulA, mulI, absD, intD, max2D, min2D, max3D, min3D, isND, notND, dRaise, dDict, okP, flp, sq_tIs, sq_fIs, sq_tT, sq_lT, sq_tB, sq_lB, isq_tIs, isq_fIs, isq_tT, isq_lT, isq_tB, isq_lB, len_tIs, len_fIs, len_tT, len_lT, len_tB, len_lB, en_tIs, en_fIs, en_tT, en_lT, en_tB, en_lB, tup_tIs, tup_fIs, tup_tT, tup_lT, tup_tB, tup_lB, lst_tIs, lst_fIs, lst_tT, lst_lT, lst_tB, lst_lB, Tg_0, Tg_1, f_tIs, f_fIs, f_tT, f_lT, f_tB, f_lB, List.getElem?_set, List.getElem?_cons_zero, List.getElem?_cons_succ, List.getElem?_nil, sq_tup, sq_lst, isq_tup, isq_lst, len_tup, len_lst, add_int, le_int, lt_int, ge_int, gt_int, vals_c1, vals_c0, vals_st1, vals_st0, any_bl, all_bl, ix_t0, ix_t1, ix_t2, -getElem?_pos, g10], by simp [cfOf, startE, fin_, outsOf, retag, findTag, dRet, dSeq, dEnd, dNever, dIte, dIf, dDrop, dFld, dSet, toB, dC, dName, dBl, dNot, dAnd, dOr, tAndD, tOrD, tNotD, dTru, dBoolC, boolD, dIsi, dIsi2, dIsC, tyN, isN, d2, d3, oV, oPl, aNil, aCons, aStar, argB, argsB, ownPl, nodupB, wb, wb1, dCall, dMeth, oMake, oMake0, dSetFld, res, resAll, bV_val, bV_own, tD_lst, tD_ins, vals, dL, dLV, dTup, dLst, oLst, sz, ofO, i0D, iD, truD, dFz, R.bind, dAsg, gTp, gsCons, gsNil, gNm, dPar, setAll, dAug, dSetIx, isOwn, dApp, dFor, iVals, iRes, iSeq, dSl, pNo, pSome, dNeg, fdivD, modD, powD, mulA, mulI, absD, intD, max2D, min2D, max3D, min3D, isND, notND, dRaise, dDict, okP, flp, sq_tIs, sq_fIs, sq_tT, sq_lT, sq_tB, sq_lB, isq_tIs, isq_fIs, isq_tT, isq_lT, isq_tB, isq_lB, len_tIs, len_fIs, len_tT, len_lT, len_tB, len_lB, en_tIs, en_fIs, en_tT, en_lT, en_tB, en_lB, tup_tIs, tup_fIs, tup_tT, tup_lT, tup_tB, tup_lB, lst_tIs, lst_fIs, lst_tT, lst_lT, lst_tB, lst_lB, Tg_0, Tg_1, f_tIs, f_fIs, f_tT, f_lT, f_tB, f_lB, List.getElem?_set, List.getElem?_cons_zero, List.getElem?_cons_succ, List.getElem?_nil, sq_tup, sq_lst, isq_tup, isq_lst, len_tup, len_lst, add_int, le_int, lt_int, ge_int, gt_int, vals_c1, vals_c0, vals_st1, vals_st0, any_bl, all_bl, ix_t0, ix_t1, ix_t2, -getElem?_pos, g11], by simp [cfOf, startE, fin_, outsOf, retag, findTag, dRet, dSeq, dEnd, dNever, dIte, dIf, dDrop, dFld, dSet, toB, dC, dName, dBl, dNot, dAnd, dOr, tAndD, tOrD, tNotD, dTru, dBoolC, boolD, dIsi, dIsi2, dIsC, tyN, isN, d2, d3, oV, oPl, aNil, aCons, aStar, argB, argsB, ownPl, nodupB, wb, wb1, dCall, dMeth, oMake, oMake0, dSetFld, res, resAll, bV_val, bV_own, tD_lst, tD_ins, vals, dL, dLV, dTup, dLst, oLst, sz, ofO, i0D, iD, truD, dFz, R.bind, dAsg, gTp, gsCons, gsNil, gNm, dPar, setAll, dAug, dSetIx, isOwn, dApp, dFor, iVals, iRes, iSeq, dSl, pNo, pSome, dNeg, fdivD, modD, powD, mulA, mulI, absD, intD, max2D, min2D, max3D, min3D, isND, notND, dRaise, dDict, okP, flp, sq_tIs, sq_fIs, sq_tT, sq_lT, sq_tB, sq_lB, isq_tIs, isq_fIs, isq_tT, isq_lT, isq_tB, isq_lB, len_tIs, len_fIs, len_tT, len_lT, len_tB, len_lB, en_tIs, en_fIs, en_tT, en_lT, en_tB, en_lB, tup_tIs, tup_fIs, tup_tT, tup_lT, tup_tB, tup_lB, lst_tIs, lst_fIs, lst_tT, lst_lT, lst_tB, lst_lB, Tg_0, Tg_1, f_tIs, f_fIs, f_tT, f_lT, f_tB, f_lB, List.getElem?_set, List.getElem?_cons_zero, List.getElem?_cons_succ, List.getElem?_nil, sq_tup, sq_lst, isq_tup, isq_lst, len_tup, len_lst, add_int, le_int, lt_int, ge_int, gt_int, vals_c1, vals_c0, vals_st1, vals_st0, any_bl, all_bl, ix_t0, ix_t1, ix_t2, -getElem?_pos, g12], Rw ++ [x], by simp [cfOf, startE, fin_, outsOf, retag, findTag, dRet, dSeq, dEnd, dNever, dIte, dIf, dDrop, dFld, dSet, toB, dC, dName, dBl, dNot, dAnd, dOr, tAndD, tOrD, tNotD, dTru, dBoolC, boolD, dIsi, dIsi2, dIsC, tyN, isN, d2, d3, oV, oPl, aNil, aCons, aStar, argB, argsB, ownPl, nodupB, wb, wb1, dCall, dMeth, oMake, oMake0, dSetFld, res, resAll, bV_val, bV_own, tD_lst, tD_ins, vals, dL, dLV, dTup, dLst, oLst, sz, ofO, i0D, iD, truD, dFz, R.bind, dAsg, gTp, gsCons, gsNil, gNm, dPar, setAll, dAug, dSetIx, isOwn, dApp, dFor, iVals, iRes, iSeq, dSl, pNo, pSome, dNeg, fdivD, modD, powD, mulA, mulI, absD, intD, max2D, min2D, max3D, min3D, isND, notND, dRaise, dDict, okP, flp, sq_tIs, sq_fIs, sq_tT, sq_lT, sq_tB, sq_lB, isq_tIs, isq_fIs, isq_tT, isq_lT, isq_tB, isq_lB, len_tIs, len_fIs, len_tT, len_lT, len_tB, len_lB, en_tIs, en_fIs, en_tT, en_lT, en_tB, en_lB, tup_tIs, tup_fIs, tup_tT, tup_lT, tup_tB, tup_lB, lst_tIs, lst_fIs, lst_tT, lst_lT, lst_tB, lst_lB, Tg_0, Tg_1, f_tIs, f_fIs, f_tT, f_lT, f_tB, f_lB, List.getElem?_set, List.getElem?_cons_zero, List.getElem?_cons_succ, List.getElem?_nil, sq_tup, sq_lst, isq_tup, isq_lst, len_tup, len_lst, add_int, le_int, lt_int, ge_int, gt_int, vals_c1, vals_c0, vals_st1, vals_st0, any_bl, all_bl, ix_t0, ix_t1, ix_t2, -getElem?_pos, hl], by simp; omega, fun p hp => ?_, hm.2⟩
    · have ha : addD (tT Rw) (.tup [Tg x]) = some (tT (Rw ++ [x])) := add1_tT (by omega)
      simp only [he, decide_false, Bool.not_false] at hne
      generalize lT (fineL L t g Rw) = LF at *
      simp [cfOf, startE, fin_, outsOf, retag, findTag, dRet, dSeq, dEnd, dNever, dIte, dIf, dDrop, dFld, dSet, toB, dC, dName, dBl, dNot, dAnd, dOr, tAndD, tOrD, tNotD, dTru, dBoolC, boolD, dIsi, dIsi2, dIsC, tyN, isN, d2, d3, oV, oPl, aNil, aCons, aStar, argB, argsB, ownPl, nodupB, wb, wb1, dCall, dMeth, oMake, oMake0, dSetFld, res, resAll, bV_val, bV_own, tD_lst, tD_ins, vals, dL, dLV, dTup, dLst, oLst, sz, ofO, i0D, iD, truD, dFz, R.bind, dAsg, gTp, gsCons, gsNil, gNm, dPar, setAll, dAug, dSetIx, isOwn, dApp, dFor, iVals, iRes, iSeq, dSl, pNo, pSome, dNeg, fdivD, modD, powD, mulA, mulI, absD, intD, max2D, min2D, max3D, min3D, isND, notND, dRaise, dDict, okP, flp, sq_tIs, sq_fIs, sq_tT, sq_lT, sq_tB, sq_lB, isq_tIs, isq_fIs, isq_tT, isq_lT, isq_tB, isq_lB, len_tIs, len_fIs, len_tT, len_lT, len_tB, len_lB, en_tIs, en_fIs, en_tT, en_lT, en_tB, en_lB, tup_tIs, tup_fIs, tup_tT, tup_lT, tup_tB, tup_lB, lst_tIs, lst_fIs, lst_tT, lst_lT, lst_tB, lst_lB, Tg_0, Tg_1, f_tIs, f_fIs, f_tT, f_lT, f_tB, f_lB, List.getElem?_set, List.getElem?_cons_zero, List.getElem?_cons_succ, List.getElem?_nil, sq_tup, sq_lst, isq_tup, isq_lst, len_tup, len_lst, add_int, le_int, lt_int, ge_int, gt_int, vals_c1, vals_c0, vals_st1, vals_st0, any_bl, all_bl, ix_t0, ix_t1, ix_t2, -getElem?_pos, g13, hl, hne, ha, f1, hp]
    · rcases List.mem_append.mp hp with hp | hp
      · exact hT p hp
      · rw [List.mem_singleton.mp hp]; exact hm.1
theorem l_row {S L : List Int} {t g : Int} (l2 : L.length ≤ 4) (hL : ∀ z ∈ L, 0 ≤ z ∧ z ≤ 3) : ∀ (ds : List D) (k : Nat) (ρ : Zd.Env), RI S L t g k ρ → k + ds.length ≤ 50 → ∃ ρ', fl (gNm 4) bRow ds ρ = .ok (ρ', .nx) ∧ RI S L t g (k + ds.length) ρ'
  | [], k, ρ, h, _ => ⟨ρ, rfl, h⟩
  | d :: ds, k, ρ, h, hk => by
    simp only [List.length_cons] at hk
    obtain ⟨n, hS⟩ := h.ls
    obtain ⟨Rw, g13, hR, hT, hc⟩ := h.r13
    obtain ⟨ρ1, e1, h1⟩ := b_row (ρ := ρ.set 4 (sv d)) l2 hL ⟨⟨n, hS.set (by decide) rfl⟩, by simp [cfOf, startE, fin_, outsOf, retag, findTag, dRet, dSeq, dEnd, dNever, dIte, dIf, dDrop, dFld, dSet, toB, dC, dName, dBl, dNot, dAnd, dOr, tAndD, tOrD, tNotD, dTru, dBoolC, boolD, dIsi, dIsi2, dIsC, tyN, isN, d2, d3, oV, oPl, aNil, aCons, aStar, argB, argsB, ownPl, nodupB, wb, wb1, dCall, dMeth, oMake, oMake0, dSetFld, res, resAll, bV_val, bV_own, tD_lst, tD_ins, vals, dL, dLV, dTup, dLst, oLst, sz, ofO, i0D, iD, truD, dFz, R.bind, dAsg, gTp, gsCons, gsNil, gNm, dPar, setAll, dAug, dSetIx, isOwn, dApp, dFor, iVals, iRes, iSeq, dSl, pNo, pSome, dNeg, fdivD, modD, powD, mulA, mulI, absD, intD, max2D, min2D, max3D, min3D, isND, notND, dRaise, dDict, okP, flp, sq_tIs, sq_fIs, sq_tT, sq_lT, sq_tB, sq_lB, isq_tIs, isq_fIs, isq_tT, isq_lT, isq_tB, isq_lB, len_tIs, len_fIs, len_tT, len_lT, len_tB, len_lB, en_tIs, en_fIs, en_tT, en_lT, en_tB, en_lB, tup_tIs, tup_fIs, tup_tT, tup_lT, tup_tB, tup_lB, lst_tIs, lst_fIs, lst_tT, lst_lT, lst_tB, lst_lB, Tg_0, Tg_1, f_tIs, f_fIs, f_tT, f_lT, f_tB, f_lB, List.getElem?_set, List.getElem?_cons_zero, List.getElem?_cons_succ, List.getElem?_nil, sq_tup, sq_lst, isq_tup, isq_lst, len_tup, len_lst, add_int, le_int, lt_int, ge_int, gt_int, vals_c1, vals_c0, vals_st1, vals_st0, any_bl, all_bl, ix_t0, ix_t1, ix_t2, -getElem?_pos, h.r10], by simp [cfOf, startE, fin_, outsOf, retag, findTag, dRet, dSeq, dEnd, dNever, dIte, dIf, dDrop, dFld, dSet, toB, dC, dName, dBl, dNot, dAnd, dOr, tAndD, tOrD, tNotD, dTru, dBoolC, boolD, dIsi, dIsi2, dIsC, tyN, isN, d2, d3, oV, oPl, aNil, aCons, aStar, argB, argsB, ownPl, nodupB, wb, wb1, dCall, dMeth, oMake, oMake0, dSetFld, res, resAll, bV_val, bV_own, tD_lst, tD_ins, vals, dL, dLV, dTup, dLst, oLst, sz, ofO, i0D, iD, truD, dFz, R.bind, dAsg, gTp, gsCons, gsNil, gNm, dPar, setAll, dAug, dSetIx, isOwn, dApp, dFor, iVals, iRes, iSeq, dSl, pNo, pSome, dNeg, fdivD, modD, powD, mulA, mulI, absD, intD, max2D, min2D, max3D, min3D, isND, notND, dRaise, dDict, okP, flp, sq_tIs, sq_fIs, sq_tT, sq_lT, sq_tB, sq_lB, isq_tIs, isq_fIs, isq_tT, isq_lT, isq_tB, isq_lB, len_tIs, len_fIs, len_tT, len_lT, len_tB, len_lB, en_tIs, en_fIs, en_tT, en_lT, en_tB, en_lB, tup_tIs, tup_fIs, tup_tT, tup_lT, tup_tB, tup_lB, lst_tIs, lst_fIs, lst_tT, lst_lT, lst_tB, lst_lB, Tg_0, Tg_1, f_tIs, f_fIs, f_tT, f_lT, f_tB, f_lB, List.getElem?_set, List.getElem?_cons_zero, List.getElem?_cons_succ, List.getElem?_nil, sq_tup, sq_lst, isq_tup, isq_lst, len_tup, len_lst, add_int, le_int, lt_int, ge_int, gt_int, vals_c1, vals_c0, vals_st1, vals_st0, any_bl, all_bl, ix_t0, ix_t1, ix_t2, -getElem?_pos, h.r11], by simp [cfOf, startE, fin_, outsOf, retag, findTag, dRet, dSeq, dEnd, dNever, dIte, dIf, dDrop, dFld, dSet, toB, dC, dName, dBl, dNot, dAnd, dOr, tAndD, tOrD, tNotD, dTru, dBoolC, boolD, dIsi, dIsi2, dIsC, tyN, isN, d2, d3, oV, oPl, aNil, aCons, aStar, argB, argsB, ownPl, nodupB, wb, wb1, dCall, dMeth, oMake, oMake0, dSetFld, res, resAll, bV_val, bV_own, tD_lst, tD_ins, vals, dL, dLV, dTup, dLst, oLst, sz, ofO, i0D, iD, truD, dFz, R.bind, dAsg, gTp, gsCons, gsNil, gNm, dPar, setAll, dAug, dSetIx, isOwn, dApp, dFor, iVals, iRes, iSeq, dSl, pNo, pSome, dNeg, fdivD, modD, powD, mulA, mulI, absD, intD, max2D, min2D, max3D, min3D, isND, notND, dRaise, dDict, okP, flp, sq_tIs, sq_fIs, sq_tT, sq_lT, sq_tB, sq_lB, isq_tIs, isq_fIs, isq_tT, isq_lT, isq_tB, isq_lB, len_tIs, len_fIs, len_tT, len_lT, len_tB, len_lB, en_tIs, en_fIs, en_tT, en_lT, en_tB, en_lB, tup_tIs, tup_fIs, tup_tT, tup_lT, tup_tB, tup_lB, lst_tIs, lst_fIs, lst_tT, lst_lT, lst_tB, lst_lB, Tg_0, Tg_1, f_tIs, f_fIs, f_tT, f_lT, f_tB, f_lB, List.getElem?_set, List.getElem?_cons_zero, List.getElem?_cons_succ, List.getElem?_nil, sq_tup, sq_lst, isq_tup, isq_lst, len_tup, len_lst, add_int, le_int, lt_int, ge_int, gt_int, vals_c1, vals_c0, vals_st1, vals_st0, any_bl, all_bl, ix_t0, ix_t1, ix_t2, -getElem?_pos, h.r12], Rw, by simp [cfOf, startE, fin_, outsOf, retag, findTag, dRet, dSeq, dEnd, dNever, dIte, dIf, dDrop, dFld, dSet, toB, dC, dName, dBl, dNot, dAnd, dOr, tAndD, tOrD, tNotD, dTru, dBoolC, boolD, dIsi, dIsi2, dIsC, tyN, isN, d2, d3, oV, oPl, aNil, aCons, aStar, argB, argsB, ownPl, nodupB, wb, wb1, dCall, dMeth, oMake, oMake0, dSetFld, res, resAll, bV_val, bV_own, tD_lst, tD_ins, vals, dL, dLV, dTup, dLst, oLst, sz, ofO, i0D, iD, truD, dFz, R.bind, dAsg, gTp, gsCons, gsNil, gNm, dPar, setAll, dAug, dSetIx, isOwn, dApp, dFor, iVals, iRes, iSeq, dSl, pNo, pSome, dNeg, fdivD, modD, powD, mulA, mulI, absD, intD, max2D, min2D, max3D, min3D, isND, notND, dRaise, dDict, okP, flp, sq_tIs, sq_fIs, sq_tT, sq_lT, sq_tB, sq_lB, isq_tIs, isq_fIs, isq_tT, isq_lT, isq_tB, isq_lB, len_tIs, len_fIs, len_tT, len_lT, len_tB, len_lB, en_tIs, en_fIs, en_tT, en_lT, en_tB, en_lB, tup_tIs, tup_fIs, tup_tT, tup_lT, tup_tB, tup_lB, lst_tIs, lst_fIs, lst_tT, lst_lT, lst_tB, lst_lB, Tg_0, Tg_1, f_tIs, f_fIs, f_tT, f_lT, f_tB, f_lB, List.getElem?_set, List.getElem?_cons_zero, List.getElem?_cons_succ, List.getElem?_nil, sq_tup, sq_lst, isq_tup, isq_lst, len_tup, len_lst, add_int, le_int, lt_int, ge_int, gt_int, vals_c1, vals_c0, vals_st1, vals_st0, any_bl, all_bl, ix_t0, ix_t1, ix_t2, -getElem?_pos, g13], hR, hT, hc⟩ (by omega)
    obtain ⟨ρ2, e2, h2⟩ := l_row l2 hL ds (k + 1) ρ1 h1 (by omega)
    refine ⟨ρ2, ?_, by rw [List.length_cons, show k + (ds.length + 1) = k + 1 + ds.length by omega]; exact h2⟩
    have eg : gNm 4 d ρ = some (ρ.set 4 (sv d)) := rfl
    simp [fl, eg, ofO, R.bind, e1, e2]
theorem st11 {S L : List Int} {t g n : Int} {ρ : Zd.Env} (l2 : L.length ≤ 4) (hL : ∀ z ∈ L, 0 ≤ z ∧ z ≤ 3) (hS : LS S n ρ) (g10 : ρ[10]? = some (sv (tIs L))) (g11 : ρ[11]? = some (some (iv t))) (g12 : ρ[12]? = some (some (iv g))) (g13 : ρ[13]? = some (sv (tT []))) :
    ∃ ρ', S_law_11 ρ = .ok (ρ', .nx) ∧ RI S L t g 8 ρ' := by
  obtain ⟨ρ', e, h⟩ := l_row (S := S) (t := t) (g := g) l2 hL (rngL 0 1 8) 0 ρ ⟨⟨n, hS⟩, g10, g11, g12, [], g13, by simp, by simp, rfl⟩ (by simp [rngL])
  refine ⟨ρ', ?_, by simpa [rngL] using h⟩
  rw [← e]
  have hr : rng1 [.int 8] = some (rngL 0 1 8) := rfl
  unfold S_law_11 dFor
  show R.bind (iRes rng1 (aCons (oV (dC (.int 8))) aNil) ρ) (fun p => fl (gNm 4) bRow p.2 p.1) = _
  generalize bRow = B
  generalize rngL 0 1 8 = RR at hr
  simp [cfOf, startE, fin_, outsOf, retag, findTag, dRet, dSeq, dEnd, dNever, dIte, dIf, dDrop, dFld, dSet, toB, dC, dName, dBl, dNot, dAnd, dOr, tAndD, tOrD, tNotD, dTru, dBoolC, boolD, dIsi, dIsi2, dIsC, tyN, isN, d2, d3, oV, oPl, aNil, aCons, aStar, argB, argsB, ownPl, nodupB, wb, wb1, dCall, dMeth, oMake, oMake0, dSetFld, res, resAll, bV_val, bV_own, tD_lst, tD_ins, vals, dL, dLV, dTup, dLst, oLst, sz, ofO, i0D, iD, truD, dFz, R.bind, dAsg, gTp, gsCons, gsNil, gNm, dPar, setAll, dAug, dSetIx, isOwn, dApp, dFor, iVals, iRes, iSeq, dSl, pNo, pSome, dNeg, fdivD, modD, powD, mulA, mulI, absD, intD, max2D, min2D, max3D, min3D, isND, notND, dRaise, dDict, okP, flp, sq_tIs, sq_fIs, sq_tT, sq_lT, sq_tB, sq_lB, isq_tIs, isq_fIs, isq_tT, isq_lT, isq_tB, isq_lB, len_tIs, len_fIs, len_tT, len_lT, len_tB, len_lB, en_tIs, en_fIs, en_tT, en_lT, en_tB, en_lB, tup_tIs, tup_fIs, tup_tT, tup_lT, tup_tB, tup_lB, lst_tIs, lst_fIs, lst_tT, lst_lT, lst_tB, lst_lB, Tg_0, Tg_1, f_tIs, f_fIs, f_tT, f_lT, f_tB, f_lB, List.getElem?_set, List.getElem?_cons_zero, List.getElem?_cons_succ, List.getElem?_nil, sq_tup, sq_lst, isq_tup, isq_lst, len_tup, len_lst, add_int, le_int, lt_int, ge_int, gt_int, vals_c1, vals_c0, vals_st1, vals_st0, any_bl, all_bl, ix_t0, ix_t1, ix_t2, -getElem?_pos, hr]
end A
end
section
namespace A
open PySem Zd
set_option autoImplicit false
variable {x0 x1 x2 x3 x4 x5 x6 x7 x8 x9 x10 x11 x12 x13 x14 x15 x16 x17 x18 x19 : Option B}
theorem st20 : S_law_20 [x0, x1, x2, x3, x4, x5, x6, x7, x8, x9, x10, x11, x12, x13, x14, x15, x16, x17, x18, x19] = .ok ([x0, x1, x2, x3, x4, x5, x6, x7, x8, x9, x10, x11, x12, x13, x14, x15, x16, x17, x18, sv (.tup [.int 1])], .nx) := by kernel_rfl
theorem st24 : S_law_24 [x0, x1, x2, x3, x4, x5, x6, x7, x8, x9, x10, x11, x12, x13, x14, x15, x16, x17, x18, x19] = .ok ([x0, x1, x2, x3, x4, x5, x6, x7, sv (.int 0), x9, x10, x11, x12, x13, x14, x15, x16, x17, x18, sv (.tup [.tup [.int 0, .int 0, .int 0]])], .nx) := by kernel_rfl
theorem st27 : S_law_27 [x0, x1, x2, x3, x4, x5, x6, x7, x8, x9, x10, x11, x12, x13, x14, x15, x16, x17, x18, x19] = .ok ([x0, x1, x2, x3, x4, x5, x6, x7, sv (.int 0), x9, x10, x11, x12, x13, x14, x15, x16, x17, x18, sv (.tup [.bl true])], .nx) := by kernel_rfl
theorem st29 : S_law_29 [x0, x1, x2, x3, x4, x5, x6, x7, x8, x9, x10, x11, x12, x13, x14, x15, x16, x17, x18, x19] = .ok ([x0, x1, x2, x3, x4, x5, x6, x7, x8, x9, x10, x11, x12, x13, x14, x15, x16, x17, x18, sv (.bl true)], .nx) := by kernel_rfl
theorem st31 : S_law_31 [x0, x1, x2, x3, x4, x5, x6, x7, x8, x9, x10, x11, x12, x13, x14, x15, x16, x17, x18, x19] = .ok ([x0, x1, x2, x3, x4, x5, x6, x7, x8, x9, x10, x11, x12, x13, x14, x15, x16, x17, x18, x19], .nx) := by kernel_rfl
theorem st33 : S_law_33 [x0, x1, x2, x3, x4, x5, x6, x7, x8, x9, x10, x11, x12, x13, x14, x15, x16, x17, x18, x19] = .ok ([x0, x1, x2, x3, x4, x5, x6, x7, x8, x9, x10, x11, x12, x13, x14, x15, x16, x17, x18, x19], .nx) := by kernel_rfl
end A
end
section
namespace A
open PySem Zd
set_option autoImplicit false
variable {x0 x1 x2 x3 x4 x5 x6 x7 x8 x9 x10 x11 x12 x13 x14 x15 x16 x17 x18 x19 : Option B}
theorem st34 : S_law_34 [x0, x1, x2, x3, x4, x5, x6, x7, x8, x9, x10, x11, x12, x13, x14, x15, x16, x17, x18, x19] = .ok ([x0, x1, x2, x3, x4, x5, x6, x7, x8, x9, x10, x11, x12, x13, x14, x15, x16, x17, x18, x19], .rt (.bl true)) := by kernel_rfl
end A
end
section
namespace A
open PySem Zd
set_option autoImplicit false
theorem turn {S : List Int} {n : Int} {ρ : Zd.Env} (h : LS S n ρ) : ∃ ρ' n', (dSeq S_law_1 (dSeq S_law_2 (dSeq S_law_3 (dSeq S_law_4 (dSeq S_law_5 (dSeq S_law_6 (dSeq S_law_7 (dSeq S_law_8 (dSeq S_law_9 (dSeq S_law_10 (dSeq S_law_11 (dSeq S_law_12 (dSeq S_law_13 S_law_14))))))))))))) ρ = .ok (ρ', .nx) ∧ LS S n' ρ' := by
  obtain ⟨m, n1, hm, hn1, e1⟩ := st1 h
  have h1 := (h.draw hn1).set (i := 3) (x := sv m.d) (by decide) rfl
  have l1 := h1.len
  obtain ⟨C, n2, ρ2, hC, hT, h2, g3, g5, e2⟩ := st2 (m := m) h1 (by rw [get_eq (by simp [h.len])])
  have hT' : ∀ p ∈ C, TagOk p := fun p hp => (hT p hp).ok
  have e3 := st3 hm (show C.length ≤ 24 by omega) hT' h2.len g3 g5
  have h3 := (h2.set (i := 6) (x := sv (dueD (due m C))) (by decide) rfl).set (i := 7) (x := sv (toldD (due m C))) (by decide) rfl
  have l2 := h2.len
  generalize hρ3 : (ρ2.set 6 (sv (dueD (due m C)))).set 7 (sv (toldD (due m C))) = ρ3 at *
  have k3 : ρ3[3]? = some (sv m.d) := by rw [← hρ3]; simp [cfOf, startE, fin_, outsOf, retag, findTag, dRet, dSeq, dEnd, dNever, dIte, dIf, dDrop, dFld, dSet, toB, dC, dName, dBl, dNot, dAnd, dOr, tAndD, tOrD, tNotD, dTru, dBoolC, boolD, dIsi, dIsi2, dIsC, tyN, isN, d2, d3, oV, oPl, aNil, aCons, aStar, argB, argsB, ownPl, nodupB, wb, wb1, dCall, dMeth, oMake, oMake0, dSetFld, res, resAll, bV_val, bV_own, tD_lst, tD_ins, vals, dL, dLV, dTup, dLst, oLst, sz, ofO, i0D, iD, truD, dFz, R.bind, dAsg, gTp, gsCons, gsNil, gNm, dPar, setAll, dAug, dSetIx, isOwn, dApp, dFor, iVals, iRes, iSeq, dSl, pNo, pSome, dNeg, fdivD, modD, powD, mulA, mulI, absD, intD, max2D, min2D, max3D, min3D, isND, notND, dRaise, dDict, okP, flp, sq_tIs, sq_fIs, sq_tT, sq_lT, sq_tB, sq_lB, isq_tIs, isq_fIs, isq_tT, isq_lT, isq_tB, isq_lB, len_tIs, len_fIs, len_tT, len_lT, len_tB, len_lB, en_tIs, en_fIs, en_tT, en_lT, en_tB, en_lB, tup_tIs, tup_fIs, tup_tT, tup_lT, tup_tB, tup_lB, lst_tIs, lst_fIs, lst_tT, lst_lT, lst_tB, lst_lB, Tg_0, Tg_1, f_tIs, f_fIs, f_tT, f_lT, f_tB, f_lB, List.getElem?_set, List.getElem?_cons_zero, List.getElem?_cons_succ, List.getElem?_nil, sq_tup, sq_lst, isq_tup, isq_lst, len_tup, len_lst, add_int, le_int, lt_int, ge_int, gt_int, vals_c1, vals_c0, vals_st1, vals_st0, any_bl, all_bl, ix_t0, ix_t1, ix_t2, -getElem?_pos, g3]
  have k5 : ρ3[5]? = some (sv (tT C)) := by rw [← hρ3]; simp [cfOf, startE, fin_, outsOf, retag, findTag, dRet, dSeq, dEnd, dNever, dIte, dIf, dDrop, dFld, dSet, toB, dC, dName, dBl, dNot, dAnd, dOr, tAndD, tOrD, tNotD, dTru, dBoolC, boolD, dIsi, dIsi2, dIsC, tyN, isN, d2, d3, oV, oPl, aNil, aCons, aStar, argB, argsB, ownPl, nodupB, wb, wb1, dCall, dMeth, oMake, oMake0, dSetFld, res, resAll, bV_val, bV_own, tD_lst, tD_ins, vals, dL, dLV, dTup, dLst, oLst, sz, ofO, i0D, iD, truD, dFz, R.bind, dAsg, gTp, gsCons, gsNil, gNm, dPar, setAll, dAug, dSetIx, isOwn, dApp, dFor, iVals, iRes, iSeq, dSl, pNo, pSome, dNeg, fdivD, modD, powD, mulA, mulI, absD, intD, max2D, min2D, max3D, min3D, isND, notND, dRaise, dDict, okP, flp, sq_tIs, sq_fIs, sq_tT, sq_lT, sq_tB, sq_lB, isq_tIs, isq_fIs, isq_tT, isq_lT, isq_tB, isq_lB, len_tIs, len_fIs, len_tT, len_lT, len_tB, len_lB, en_tIs, en_fIs, en_tT, en_lT, en_tB, en_lB, tup_tIs, tup_fIs, tup_tT, tup_lT, tup_tB, tup_lB, lst_tIs, lst_fIs, lst_tT, lst_lT, lst_tB, lst_lB, Tg_0, Tg_1, f_tIs, f_fIs, f_tT, f_lT, f_tB, f_lB, List.getElem?_set, List.getElem?_cons_zero, List.getElem?_cons_succ, List.getElem?_nil, sq_tup, sq_lst, isq_tup, isq_lst, len_tup, len_lst, add_int, le_int, lt_int, ge_int, gt_int, vals_c1, vals_c0, vals_st1, vals_st0, any_bl, all_bl, ix_t0, ix_t1, ix_t2, -getElem?_pos, g5]
  have k6 : ρ3[6]? = some (sv (dueD (due m C))) := by rw [← hρ3, get_ne (by decide), get_eq (by omega)]
  have k7 : ρ3[7]? = some (sv (toldD (due m C))) := by rw [← hρ3, get_eq (by simp; omega)]
  have e4 := st4 hm (show C.length ≤ 24 by omega) hT' h3.len k3 k5 k6 k7
  have e5 := st5 hm (show C.length ≤ 24 by omega) hT' h3.len k3 k5 k6 k7
  have e6 := st6 h3 (show C.length ≤ 24 by omega) hT' k5
  obtain ⟨L, n7, ρ7, w1, w2, hL, h7, q5, q10, e7⟩ := st7 h3 k5
  obtain ⟨t, g, n8, t1, t2, g1, g2, hn8, e8⟩ := st8 h7
  have h8 := ((h7.draw hn8).set (i := 11) (x := some (iv t)) (by decide) rfl).set (i := 12) (x := some (iv g)) (by decide) rfl
  have l7 := h7.len
  generalize hρ8 : ((ρ7.set 1 (drw S n8)).set 11 (some (iv t))).set 12 (some (iv g)) = ρ8 at *
  have r5 : ρ8[5]? = some (sv (tT C)) := by rw [← hρ8]; simp [cfOf, startE, fin_, outsOf, retag, findTag, dRet, dSeq, dEnd, dNever, dIte, dIf, dDrop, dFld, dSet, toB, dC, dName, dBl, dNot, dAnd, dOr, tAndD, tOrD, tNotD, dTru, dBoolC, boolD, dIsi, dIsi2, dIsC, tyN, isN, d2, d3, oV, oPl, aNil, aCons, aStar, argB, argsB, ownPl, nodupB, wb, wb1, dCall, dMeth, oMake, oMake0, dSetFld, res, resAll, bV_val, bV_own, tD_lst, tD_ins, vals, dL, dLV, dTup, dLst, oLst, sz, ofO, i0D, iD, truD, dFz, R.bind, dAsg, gTp, gsCons, gsNil, gNm, dPar, setAll, dAug, dSetIx, isOwn, dApp, dFor, iVals, iRes, iSeq, dSl, pNo, pSome, dNeg, fdivD, modD, powD, mulA, mulI, absD, intD, max2D, min2D, max3D, min3D, isND, notND, dRaise, dDict, okP, flp, sq_tIs, sq_fIs, sq_tT, sq_lT, sq_tB, sq_lB, isq_tIs, isq_fIs, isq_tT, isq_lT, isq_tB, isq_lB, len_tIs, len_fIs, len_tT, len_lT, len_tB, len_lB, en_tIs, en_fIs, en_tT, en_lT, en_tB, en_lB, tup_tIs, tup_fIs, tup_tT, tup_lT, tup_tB, tup_lB, lst_tIs, lst_fIs, lst_tT, lst_lT, lst_tB, lst_lB, Tg_0, Tg_1, f_tIs, f_fIs, f_tT, f_lT, f_tB, f_lB, List.getElem?_set, List.getElem?_cons_zero, List.getElem?_cons_succ, List.getElem?_nil, sq_tup, sq_lst, isq_tup, isq_lst, len_tup, len_lst, add_int, le_int, lt_int, ge_int, gt_int, vals_c1, vals_c0, vals_st1, vals_st0, any_bl, all_bl, ix_t0, ix_t1, ix_t2, -getElem?_pos, q5]
  have r10 : ρ8[10]? = some (sv (tIs L)) := by rw [← hρ8]; simp [cfOf, startE, fin_, outsOf, retag, findTag, dRet, dSeq, dEnd, dNever, dIte, dIf, dDrop, dFld, dSet, toB, dC, dName, dBl, dNot, dAnd, dOr, tAndD, tOrD, tNotD, dTru, dBoolC, boolD, dIsi, dIsi2, dIsC, tyN, isN, d2, d3, oV, oPl, aNil, aCons, aStar, argB, argsB, ownPl, nodupB, wb, wb1, dCall, dMeth, oMake, oMake0, dSetFld, res, resAll, bV_val, bV_own, tD_lst, tD_ins, vals, dL, dLV, dTup, dLst, oLst, sz, ofO, i0D, iD, truD, dFz, R.bind, dAsg, gTp, gsCons, gsNil, gNm, dPar, setAll, dAug, dSetIx, isOwn, dApp, dFor, iVals, iRes, iSeq, dSl, pNo, pSome, dNeg, fdivD, modD, powD, mulA, mulI, absD, intD, max2D, min2D, max3D, min3D, isND, notND, dRaise, dDict, okP, flp, sq_tIs, sq_fIs, sq_tT, sq_lT, sq_tB, sq_lB, isq_tIs, isq_fIs, isq_tT, isq_lT, isq_tB, isq_lB, len_tIs, len_fIs, len_tT, len_lT, len_tB, len_lB, en_tIs, en_fIs, en_tT, en_lT, en_tB, en_lB, tup_tIs, tup_fIs, tup_tT, tup_lT, tup_tB, tup_lB, lst_tIs, lst_fIs, lst_tT, lst_lT, lst_tB, lst_lB, Tg_0, Tg_1, f_tIs, f_fIs, f_tT, f_lT, f_tB, f_lB, List.getElem?_set, List.getElem?_cons_zero, List.getElem?_cons_succ, List.getElem?_nil, sq_tup, sq_lst, isq_tup, isq_lst, len_tup, len_lst, add_int, le_int, lt_int, ge_int, gt_int, vals_c1, vals_c0, vals_st1, vals_st0, any_bl, all_bl, ix_t0, ix_t1, ix_t2, -getElem?_pos, q10]
  have r11 : ρ8[11]? = some (some (iv t)) := by rw [← hρ8, get_ne (by decide), get_eq (by simp; omega)]
  have r12 : ρ8[12]? = some (some (iv g)) := by rw [← hρ8, get_eq (by simp; omega)]
  have e9 := st9 w1 w2 hL t1 t2 g1 (by omega) hT' (by omega) r5 r10 r11 r12
  have h10 := h8.set (i := 13) (x := sv (tT [])) (by decide) rfl
  have l8 := h8.len
  obtain ⟨ρ11, e11, hR⟩ := st11 (t := t) (g := g) w2 hL h10 (by rw [get_ne (by decide)]; exact r10) (by rw [get_ne (by decide)]; exact r11) (by rw [get_ne (by decide)]; exact r12) (get_eq (by omega))
  obtain ⟨n11, h11⟩ := hR.ls
  obtain ⟨Rr, v13, vl, vT, vc⟩ := hR.r13
  have e12 := st12 w1 w2 hL t1 t2 g1 (by omega) vT (by omega) vc v13 hR.r10 hR.r11 hR.r12
  have e13 := st13 h11 w2 hR.r10
  have h13 := h11.set (i := 18) (x := sv (kpt L)) (by decide) rfl
  have l11 := h11.len
  obtain ⟨ρ14, e14, h14⟩ := st14 h13 w1 w2 hL (by rw [get_ne (by decide)]; exact hR.r10) (get_eq (by omega))
  refine ⟨ρ14, n11, ?_, h14⟩
  rw [seq_nx e1, seq_nx e2, seq_nx e3, seq_nx e4, seq_nx e5, seq_nx e6, seq_nx e7, seq_nx e8, seq_nx e9, seq_nx st10, seq_nx e11, seq_nx e12, seq_nx e13]
  exact e14
theorem st15 {S : List Int} {n : Int} {ρ : Zd.Env} (h : LS S n ρ) : ∃ ρ' n', S_law_15 ρ = .ok (ρ', .nx) ∧ LS S n' ρ' := by
  obtain ⟨ρ', e, n', h'⟩ := fl_inv (g := gNm 2) (body := dSeq S_law_1 (dSeq S_law_2 (dSeq S_law_3 (dSeq S_law_4 (dSeq S_law_5 (dSeq S_law_6 (dSeq S_law_7 (dSeq S_law_8 (dSeq S_law_9 (dSeq S_law_10 (dSeq S_law_11 (dSeq S_law_12 (dSeq S_law_13 S_law_14))))))))))))) (fun ρ => ∃ n, LS S n ρ) (rngL 0 1 5) (fun d _ ρ hI => by
    obtain ⟨n, hI⟩ := hI
    have h2 := hI.set (i := 2) (x := sv d) (by decide) rfl
    obtain ⟨ρ', n', e, h'⟩ := turn h2
    exact ⟨_, ρ', rfl, e, n', h'⟩) ρ ⟨n, h⟩
  refine ⟨ρ', n', ?_, h'⟩
  rw [← e]
  have hr : rng1 [.int 5] = some (rngL 0 1 5) := rfl
  unfold S_law_15 dFor
  generalize rngL 0 1 5 = RR at hr
  simp only [iRes, aCons, aNil, oV, dC, R.bind, resAll, res, Option.bind_some, hr, ofO]
theorem list20 : ∀ {ρ : Zd.Env}, ρ.length = 20 → ∃ x0 x1 x2 x3 x4 x5 x6 x7 x8 x9 x10 x11 x12 x13 x14 x15 x16 x17 x18 x19 : Option B, ρ = [x0, x1, x2, x3, x4, x5, x6, x7, x8, x9, x10, x11, x12, x13, x14, x15, x16, x17, x18, x19]
  | [x0, x1, x2, x3, x4, x5, x6, x7, x8, x9, x10, x11, x12, x13, x14, x15, x16, x17, x18, x19], _ => ⟨x0, x1, x2, x3, x4, x5, x6, x7, x8, x9, x10, x11, x12, x13, x14, x15, x16, x17, x18, x19, rfl⟩
theorem tail_ok {ρ : Zd.Env} (h : ρ.length = 20) : ∃ ρ', (dSeq S_law_20 (dSeq S_law_24 (dSeq S_law_27 (dSeq S_law_29 (dSeq S_law_31 (dSeq S_law_33 S_law_34)))))) ρ = .ok (ρ', .rt (.bl true)) := by
  obtain ⟨x0, x1, x2, x3, x4, x5, x6, x7, x8, x9, x10, x11, x12, x13, x14, x15, x16, x17, x18, x19, rfl⟩ := list20 h
  rw [seq_nx st20, seq_nx st24, seq_nx st27, seq_nx st29, seq_nx st31, seq_nx st33, st34]
  exact ⟨_, rfl⟩
theorem hL (ns : List Int) (h : ns.length ≤ 63) : ∃ outs, F_law [.val (.frz (ns.map D.int))] = .ok outs (.bl true) := by
  have hcut : cutD (.frz (ns.map D.int)) none (some 63) = some (fIs ns) := by
    have e : ∀ (n : Nat) (d : Nat), n ≤ 63 → HT.sIx n d (some 63) = n := fun n d hn => by
      have : HT.sIx n d (some ((63 : Nat) : Int)) = min 63 n := HT.sIx_nat n d 63
      have e3 : ((63 : Nat) : Int) = 63 := rfl
      rw [e3] at this
      omega
    simp only [cutD, fIs, cut, List.length_map, sIx_no, List.drop_zero, Nat.sub_zero, e ns.length ns.length h]
    rw [List.take_of_length_le (by simp)]
  have s0 : S_law_0 [sv (.frz (ns.map D.int)), none, none, none, none, none, none, none, none, none, none, none, none, none, none, none, none, none, none, none] = .ok ([sv (.frz (ns.map D.int)), drw ns 0, none, none, none, none, none, none, none, none, none, none, none, none, none, none, none, none, none, none], .nx) := by
    unfold S_law_0
    simp [cfOf, startE, fin_, outsOf, retag, findTag, dRet, dSeq, dEnd, dNever, dIte, dIf, dDrop, dFld, dSet, toB, dC, dName, dBl, dNot, dAnd, dOr, tAndD, tOrD, tNotD, dTru, dBoolC, boolD, dIsi, dIsi2, dIsC, tyN, isN, d2, d3, oV, oPl, aNil, aCons, aStar, argB, argsB, ownPl, nodupB, wb, wb1, dCall, dMeth, oMake, oMake0, dSetFld, res, resAll, bV_val, bV_own, tD_lst, tD_ins, vals, dL, dLV, dTup, dLst, oLst, sz, ofO, i0D, iD, truD, dFz, R.bind, dAsg, gTp, gsCons, gsNil, gNm, dPar, setAll, dAug, dSetIx, isOwn, dApp, dFor, iVals, iRes, iSeq, dSl, pNo, pSome, dNeg, fdivD, modD, powD, mulA, mulI, absD, intD, max2D, min2D, max3D, min3D, isND, notND, dRaise, dDict, okP, flp, sq_tIs, sq_fIs, sq_tT, sq_lT, sq_tB, sq_lB, isq_tIs, isq_fIs, isq_tT, isq_lT, isq_tB, isq_lB, len_tIs, len_fIs, len_tT, len_lT, len_tB, len_lB, en_tIs, en_fIs, en_tT, en_lT, en_tB, en_lB, tup_tIs, tup_fIs, tup_tT, tup_lT, tup_tB, tup_lB, lst_tIs, lst_fIs, lst_tT, lst_lT, lst_tB, lst_lB, Tg_0, Tg_1, f_tIs, f_fIs, f_tT, f_lT, f_tB, f_lB, List.getElem?_set, List.getElem?_cons_zero, List.getElem?_cons_succ, List.getElem?_nil, sq_tup, sq_lst, isq_tup, isq_lst, len_tup, len_lst, add_int, le_int, lt_int, ge_int, gt_int, vals_c1, vals_c0, vals_st1, vals_st0, any_bl, all_bl, ix_t0, ix_t1, ix_t2, -getElem?_pos, hcut]
  obtain ⟨ρ2, n2, a1, a2⟩ := st15 (S := ns) (n := 0) (ρ := [sv (.frz (ns.map D.int)), drw ns 0, none, none, none, none, none, none, none, none, none, none, none, none, none, none, none, none, none, none]) ⟨rfl, rfl, by omega, fun i hi => by
    match i, hi with
    | 0, _ => rfl
    | 1, h => exact absurd rfl h
    | 2, _ => rfl
    | 3, _ => rfl
    | 4, _ => rfl
    | 5, _ => rfl
    | 6, _ => rfl
    | 7, _ => rfl
    | 8, _ => rfl
    | 9, _ => rfl
    | 10, _ => rfl
    | 11, _ => rfl
    | 12, _ => rfl
    | 13, _ => rfl
    | 14, _ => rfl
    | 15, _ => rfl
    | 16, _ => rfl
    | 17, _ => rfl
    | 18, _ => rfl
    | 19, _ => rfl
    | i + 20, _ => rfl⟩
  obtain ⟨ρ3, b1⟩ := tail_ok a2.len
  have hD : D_law [sv (.frz (ns.map D.int)), none, none, none, none, none, none, none, none, none, none, none, none, none, none, none, none, none, none, none] = .ok (ρ3, .rt (.bl true)) := by
    unfold D_law
    rw [seq_nx s0, seq_nx a1]
    exact b1
  generalize ns.map D.int = SS at hD
  refine ⟨[none], ?_⟩
  simp [F_law, cfOf, startE, retag, fin_, hD, outsOf]
end A
end
theorem PySem.Challenge.cw_neverlies_k73_whole_memories_holds : PySem.Challenge.rw_neverlies_k73_whole_memories.Holds := by
  exact ⟨by kernel_rfl, A.holds_of A.hL⟩
