import PyProof.Rows.All
import Wide.All
import OpenK.AllK
import Wide.FinOn
import HandS.ForMost
import HandS.ForExc
import HandS.CallSlots
import HandS.Star
import HandS.TupAny
import HandS.TupMul
import HandS.Deep
import HandS.IsInst
import HandS.Wide
import HandS.Style
import KE.GoesEnum
import HandS.Defaults
import HandS.WordsExc
import HandS.New0
import HandS.Small
import HandS.ExcValue
import HandS.Strs
import HandS.Flt
import HandS.SetFor
import HandS.HeadHook4
import HandS.HeadEnd
import HandS.Head0
import HandS.Head1
import HandS.Head2
import HandS.Ends
import KE.KStateDown
import Lean
import PySem.Challenge.RW_neverlies_k94_looks_tie
set_option Elab.async false
set_option linter.all false
set_option maxRecDepth 100000
section
/-! Zd: deep values over the hand layer. -/
namespace Zd
open PySem PySem.Spec PyProof.Rows L2
set_option autoImplicit false

/-- a value, whole: what stands behind its addresses too -/
inductive D where
  | non | bl (b : Bool) | int (i : Int) | str (s : Str)
  | tup (xs : List D) | lst (xs : List D)
  /-- a list that is only read (the script) -/
  | frz (xs : List D)
  /-- an instance of the class number c: its attributes in the order of storing -/
  | ins (c : Nat) (xs : List D)
/-- an object that one frame alone may change -/
inductive OD where
  | lst (xs : List D) | ins (c : Nat) (xs : List D)
def OD.toD : OD → D
  | .lst xs => .lst xs
  | .ins c xs => .ins c xs
/-- what a slot holds; own t: t = 0 an object of the frame's making, t = j + 1 the j-th argument's -/
inductive B where
  | val (d : D) | own (t : Nat) (o : OD)
abbrev Env := List (Option B)
/-- an exception: the class's number, its attributes -/
structure Exc where
  c : Nat
  xs : List D
/-- how a piece of code ends -/
inductive R (α : Type) where
  | ok (a : α) | ex (ρ : Env) (x : Exc) | bad
def R.bind {α β : Type} (r : R α) (f : α → R β) : R β := match r with
  | .ok a => f a
  | .ex ρ x => .ex ρ x
  | .bad => .bad
@[simp] theorem R.bind_ok {α β : Type} (a : α) (f : α → R β) : (R.ok a).bind f = f a := rfl
@[simp] theorem R.bind_ex {α β : Type} (ρ : Env) (x : Exc) (f : α → R β) : (R.ex ρ x).bind f = .ex ρ x := rfl
@[simp] theorem R.bind_bad {α β : Type} (f : α → R β) : (R.bad).bind f = .bad := rfl
def ofO {α : Type} : Option α → R α
  | some a => .ok a
  | none => .bad
@[simp] theorem ofO_some {α : Type} (a : α) : ofO (some a) = R.ok a := rfl
@[simp] theorem ofO_none {α : Type} : ofO (none : Option α) = R.bad := rfl

/-! ### the heap -/
/-- the program's classes as the top has made them: number -> address; the attributes in order; exceptions' classes -/
structure Tab where
  cls : Nat → Addr
  lay : Nat → List Str
  exc : Nat → Addr
  xlay : Nat → List Str

/-- a tuple whose object bears no dict -/
def SqP (K : PySem.W.Frag) (H : Hp) (a : Addr) (xs : List V) : Prop := (∃ o : Obj, H a = some (.frz o (.tup xs)) ∧ o.dict = none) ∨
  ∃ (o : Obj) (its : Array Value) (n : Nat), K.lookup a = some o ∧ o.dict = none ∧ o.cls = .type "tuple" ∧ o.data = .seq its n ∧ its.size ≤ sizeLine ∧ Vals xs its.toList
theorem SqP.t {K : PySem.W.Frag} {H : Hp} {a : Addr} {xs : List V} (h : SqP K H a xs) : SqT K H a xs := by
  rcases h with ⟨o, h, _⟩ | ⟨o, its, n, h1, _, h2, h3, h4, h5⟩
  · exact .inl (.inr ⟨o, h⟩)
  · exact .inr ⟨o, its, n, h1, h2, h3, h4, h5⟩
mutual
/-- v stands for the deep value, as far as the frozen part G tells -/
def Rz (K : PySem.W.Frag) (T : Tab) (G : Hp) (v : V) : D → Prop
  | .non => v = .non
  | .bl b => v = .bl b
  | .int i => v = .int i
  | .str s => v = .str s
  | .tup ds => ∃ a xs, v = .ref a ∧ SqP K G a xs ∧ RzL K T G xs ds
  | .lst ds => ∃ a xs, v = .ref a ∧ G a = some (.lst xs) ∧ RzL K T G xs ds
  | .frz ds => ∃ a xs, v = .ref a ∧ SqL K G a xs ∧ RzL K T G xs ds
  | .ins c ds => ∃ a dx fs, v = .ref a ∧ G a = some (.ins (T.cls c) dx fs) ∧ fs.map (·.1) = (T.lay c).take ds.length ∧ RzL K T G (fs.map (·.2)) ds
def RzL (K : PySem.W.Frag) (T : Tab) (G : Hp) : List V → List D → Prop
  | [], [] => True
  | v :: vs, d :: ds => Rz K T G v d ∧ RzL K T G vs ds
  | _, _ => False
end
theorem RzL.len {K : PySem.W.Frag} {T : Tab} {G : Hp} : ∀ {vs : List V} {ds : List D}, RzL K T G vs ds → vs.length = ds.length
  | [], [], _ => rfl
  | v :: vs, d :: ds, h => by
    rw [RzL] at h
    rw [List.length_cons, List.length_cons, RzL.len h.2]
  | [], _ :: _, h => by simp [RzL] at h
  | _ :: _, [], h => by simp [RzL] at h
theorem Same.tup {K : PySem.W.Frag} {H H' : Hp} {a : Addr} {xs : List V} (e : Same H H') (h : SqT K H a xs) : SqT K H' a xs := by
  rcases h with (h | ⟨o, h⟩) | h
  · exact .inl (.inl (e _ _ h))
  · exact .inl (.inr ⟨o, e _ _ h⟩)
  · exact .inr h
theorem Same.tupP {K : PySem.W.Frag} {H H' : Hp} {a : Addr} {xs : List V} (e : Same H H') (h : SqP K H a xs) : SqP K H' a xs := by
  rcases h with ⟨o, h, h2⟩ | h
  · exact .inl ⟨o, e _ _ h, h2⟩
  · exact .inr h
mutual
theorem Rz.mono {K : PySem.W.Frag} {T : Tab} {G G' : Hp} (e : Same G G') : ∀ {v : V} (d : D), Rz K T G v d → Rz K T G' v d
  | _, .non, h => h
  | _, .bl _, h => h
  | _, .int _, h => h
  | _, .str _, h => h
  | _, .tup ds, h => by
    rw [Rz] at h ⊢
    obtain ⟨a, xs, e1, e2, e3⟩ := h
    exact ⟨a, xs, e1, Same.tupP e e2, RzL.mono e ds e3⟩
  | _, .lst ds, h => by
    rw [Rz] at h ⊢
    obtain ⟨a, xs, e1, e2, e3⟩ := h
    exact ⟨a, xs, e1, e _ _ e2, RzL.mono e ds e3⟩
  | _, .frz ds, h => by
    rw [Rz] at h ⊢
    obtain ⟨a, xs, e1, e2, e3⟩ := h
    exact ⟨a, xs, e1, e.seq e2, RzL.mono e ds e3⟩
  | _, .ins c ds, h => by
    rw [Rz] at h ⊢
    obtain ⟨a, dx, fs, e1, e2, e3, e4⟩ := h
    exact ⟨a, dx, fs, e1, e _ _ e2, e3, RzL.mono e ds e4⟩
theorem RzL.mono {K : PySem.W.Frag} {T : Tab} {G G' : Hp} (e : Same G G') : ∀ {vs : List V} (ds : List D), RzL K T G vs ds → RzL K T G' vs ds
  | [], [], h => h
  | v :: vs, d :: ds, h => by
    rw [RzL] at h ⊢
    exact ⟨Rz.mono e d h.1, RzL.mono e ds h.2⟩
  | [], _ :: _, h => by simp [RzL] at h
  | _ :: _, [], h => by simp [RzL] at h
end
theorem RzL.nil {K : PySem.W.Frag} {T : Tab} {G : Hp} : RzL K T G [] [] := by rw [RzL]; trivial
theorem RzL.cons {K : PySem.W.Frag} {T : Tab} {G : Hp} {v : V} {vs : List V} {d : D} {ds : List D} (h : Rz K T G v d) (r : RzL K T G vs ds) : RzL K T G (v :: vs) (d :: ds) := by rw [RzL]; exact ⟨h, r⟩
theorem RzL.nil_inv {K : PySem.W.Frag} {T : Tab} {G : Hp} {vs : List V} (h : RzL K T G vs []) : vs = [] := by
  have := h.len
  cases vs with
  | nil => rfl
  | cons _ _ => simp at this
theorem RzL.cons_inv {K : PySem.W.Frag} {T : Tab} {G : Hp} {vs : List V} {d : D} {ds : List D} (h : RzL K T G vs (d :: ds)) : ∃ v r, vs = v :: r ∧ Rz K T G v d ∧ RzL K T G r ds := by
  cases vs with
  | nil => have := h.len; simp at this
  | cons v r => rw [RzL] at h; exact ⟨v, r, rfl, h.1, h.2⟩
theorem RzL.get {K : PySem.W.Frag} {T : Tab} {G : Hp} : ∀ {vs : List V} {ds : List D} {i : Nat} {d : D}, RzL K T G vs ds → ds[i]? = some d → ∃ v, vs[i]? = some v ∧ Rz K T G v d
  | vs, [], i, d, _, e => by simp at e
  | vs, d' :: ds, 0, d, h, e => by
    obtain ⟨v, r, rfl, h1, _⟩ := h.cons_inv
    simp at e; subst e
    exact ⟨v, rfl, h1⟩
  | vs, d' :: ds, i + 1, d, h, e => by
    obtain ⟨v, r, rfl, _, h2⟩ := h.cons_inv
    obtain ⟨v', e1, e2⟩ := RzL.get (i := i) h2 (by simpa using e)
    exact ⟨v', by simpa using e1, e2⟩
theorem RzL.append {K : PySem.W.Frag} {T : Tab} {G : Hp} : ∀ {vs ws : List V} {ds es : List D}, RzL K T G vs ds → RzL K T G ws es → RzL K T G (vs ++ ws) (ds ++ es)
  | vs, ws, [], es, h, r => by
    have := h.nil_inv; subst this; exact r
  | vs, ws, d :: ds, es, h, r => by
    obtain ⟨v, vr, rfl, h1, h2⟩ := h.cons_inv
    exact .cons h1 (RzL.append h2 r)
theorem RzL.set {K : PySem.W.Frag} {T : Tab} {G : Hp} {v : V} {d : D} (r : Rz K T G v d) : ∀ {vs : List V} {ds : List D} (i : Nat), RzL K T G vs ds → RzL K T G (vs.set i v) (ds.set i d)
  | vs, [], i, h => by have := h.nil_inv; subst this; simpa using h
  | vs, d' :: ds, 0, h => by
    obtain ⟨v', vr, rfl, h1, h2⟩ := h.cons_inv
    exact .cons r h2
  | vs, d' :: ds, i + 1, h => by
    obtain ⟨v', vr, rfl, h1, h2⟩ := h.cons_inv
    exact .cons h1 (RzL.set r i h2)
theorem RzL.take {K : PySem.W.Frag} {T : Tab} {G : Hp} : ∀ {vs : List V} {ds : List D} (n : Nat), RzL K T G vs ds → RzL K T G (vs.take n) (ds.take n)
  | vs, ds, 0, h => by simpa using RzL.nil
  | vs, [], n + 1, h => by have := h.nil_inv; subst this; simpa using h
  | vs, d :: ds, n + 1, h => by
    obtain ⟨v', vr, rfl, h1, h2⟩ := h.cons_inv
    exact .cons h1 (RzL.take n h2)
theorem RzL.drop {K : PySem.W.Frag} {T : Tab} {G : Hp} : ∀ {vs : List V} {ds : List D} (n : Nat), RzL K T G vs ds → RzL K T G (vs.drop n) (ds.drop n)
  | vs, ds, 0, h => h
  | vs, [], n + 1, h => by have := h.nil_inv; subst this; simpa using h
  | vs, d :: ds, n + 1, h => by
    obtain ⟨v', vr, rfl, h1, h2⟩ := h.cons_inv
    exact RzL.drop n h2

/-- an owned object -/
def RO (K : PySem.W.Frag) (T : Tab) (G H : Hp) (a : Addr) : OD → Prop
  | .lst ds => ∃ xs, H a = some (.lst xs) ∧ RzL K T G xs ds
  | .ins c ds => ∃ dx fs, H a = some (.ins (T.cls c) dx fs) ∧ fs.map (·.1) = (T.lay c).take ds.length ∧ RzL K T G (fs.map (·.2)) ds
theorem RO.mono {K : PySem.W.Frag} {T : Tab} {G G' H H' : Hp} {a : Addr} {o : OD} (e : Same G G') (k : ∀ u, H a = some u → H' a = some u) (h : RO K T G H a o) : RO K T G' H' a o := by
  cases o with
  | lst ds => obtain ⟨xs, e1, e2⟩ := h; exact ⟨xs, k _ e1, e2.mono e⟩
  | ins c ds => obtain ⟨dx, fs, e1, e2, e3⟩ := h; exact ⟨dx, fs, k _ e1, e2, e3.mono e⟩
theorem RO.there {K : PySem.W.Frag} {T : Tab} {G H : Hp} {a : Addr} {o : OD} (h : RO K T G H a o) : ∃ u, H a = some u := by
  cases o with
  | lst ds => obtain ⟨xs, e1, e2⟩ := h; exact ⟨_, e1⟩
  | ins c ds => obtain ⟨dx, fs, e1, e2, e3⟩ := h; exact ⟨_, e1⟩

def OwnAt (ρ : Env) (σ : L2.St) (a : Addr) : Prop := ∃ (i t : Nat) (o : OD), ρ[i]? = some (some (B.own t o)) ∧ σ[i]? = some (some (V.ref a))

/-- the abstract frame ρ stands for the slots σ over the frozen part G of H; τ: the arguments' addresses -/
structure Ok (K : PySem.W.Frag) (T : Tab) (τ : Nat → Addr) (ρ : Env) (σ : L2.St) (G H : Hp) : Prop where
  sub : Same G H
  len : ρ.length = σ.length
  val : ∀ (i : Nat) (d : D), ρ[i]? = some (some (B.val d)) → ∃ v, σ[i]? = some (some v) ∧ Rz K T G v d
  own : ∀ (i t : Nat) (o : OD), ρ[i]? = some (some (B.own t o)) → ∃ a, σ[i]? = some (some (V.ref a)) ∧ G a = none ∧ RO K T G H a o ∧ (t ≠ 0 → τ t = a)
  dis : ∀ (i j t u : Nat) (o p : OD) (a : Addr), ρ[i]? = some (some (B.own t o)) → ρ[j]? = some (some (B.own u p)) → σ[i]? = some (some (V.ref a)) → σ[j]? = some (some (V.ref a)) → i = j

/-- what a piece of code may have changed -/
structure Fr (ρ : Env) (σ : L2.St) (G H : Hp) (ρ' : Env) (σ' : L2.St) (G' H' : Hp) : Prop where
  gro : Same G G'
  keep : ∀ a o, H a = some o → ¬ OwnAt ρ σ a → H' a = some o ∧ G' a = G a ∧ ¬ OwnAt ρ' σ' a
  stay : ∀ a o, H a = some o → ∃ o', H' a = some o'
theorem Fr.refl {ρ : Env} {σ : L2.St} {G H : Hp} : Fr ρ σ G H ρ σ G H := ⟨Same.refl _, fun _ _ h n => ⟨h, rfl, n⟩, fun _ o h => ⟨o, h⟩⟩
theorem Fr.trans {ρ ρ1 ρ2 : Env} {σ σ1 σ2 : L2.St} {G G1 G2 H H1 H2 : Hp} (a : Fr ρ σ G H ρ1 σ1 G1 H1) (b : Fr ρ1 σ1 G1 H1 ρ2 σ2 G2 H2) : Fr ρ σ G H ρ2 σ2 G2 H2 :=
  ⟨a.gro.trans b.gro, fun c o h n => by
    obtain ⟨h1, g1, n1⟩ := a.keep c o h n
    obtain ⟨h2, g2, n2⟩ := b.keep c o h1 n1
    exact ⟨h2, g2.trans g1, n2⟩, fun c o h => by
    obtain ⟨o1, h1⟩ := a.stay c o h
    exact b.stay c o1 h1⟩
theorem Fr.free {ρ ρ' : Env} {σ σ' : L2.St} {G G' H H' : Hp} (f : Fr ρ σ G H ρ' σ' G' H') {a : Addr} (h : H' a = none) : H a = none := by
  cases e : H a with
  | none => rfl
  | some o =>
    obtain ⟨o', q⟩ := f.stay a o e
    rw [h] at q; cases q

/-- only new things, all of them frozen (or forgotten) -/
structure New (G H G' H' : Hp) : Prop where
  gro : Same G G'
  kept : Same H H'
  sub : Same G' H'
  old : ∀ a o, H a = some o → G' a = G a
theorem New.refl {G H : Hp} (s : Same G H) : New G H G H := ⟨Same.refl _, Same.refl _, s, fun _ _ _ => rfl⟩
theorem New.trans {G H G1 H1 G2 H2 : Hp} (a : New G H G1 H1) (b : New G1 H1 G2 H2) : New G H G2 H2 :=
  ⟨a.gro.trans b.gro, a.kept.trans b.kept, b.sub, fun c o h => (b.old c o (a.kept c o h)).trans (a.old c o h)⟩
theorem Same.upd {H : Hp} {p : Addr} {o : HO} (h : H p = none) : Same H (upd H p o) := fun b x e => by
  rw [upd_ne (ne_of_none e h)]; exact e
/-- one object, frozen at once -/
theorem New.one {G H : Hp} {p : Addr} {o : HO} (s : Same G H) (h : H p = none) : New G H (upd G p o) (upd H p o) :=
  ⟨Same.upd (s.free h), Same.upd h, fun b x e => by
    by_cases hb : b = p
    · subst hb; rw [upd_same] at e ⊢; exact e
    · rw [upd_ne hb] at e ⊢; exact s _ _ e, fun a x e => upd_ne (ne_of_none e h)⟩
/-- one object, not frozen -/
theorem New.loose {G H : Hp} {p : Addr} {o : HO} (s : Same G H) (h : H p = none) : New G H G (L2.upd H p o) :=
  ⟨Same.refl _, Same.upd h, s.trans (Same.upd h), fun _ _ _ => rfl⟩
theorem New.hole {G H G' H' : Hp} (n : New G H G' H') {a : Addr} {o : HO} (h : H a = some o) (g : G a = none) : G' a = none := by rw [n.old a o h]; exact g
theorem Ok.new {K : PySem.W.Frag} {T : Tab} {τ : Nat → Addr} {ρ : Env} {σ : L2.St} {G H G' H' : Hp} (k : Ok K T τ ρ σ G H) (n : New G H G' H') : Ok K T τ ρ σ G' H' where
  sub := n.sub
  len := k.len
  val := fun i d e => let ⟨v, e1, r⟩ := k.val i d e; ⟨v, e1, r.mono n.gro⟩
  own := fun i t o e => by
    obtain ⟨a, e1, g, r, ht⟩ := k.own i t o e
    obtain ⟨u, hu⟩ := r.there
    exact ⟨a, e1, n.hole hu g, r.mono n.gro fun u e => n.kept _ _ e, ht⟩
  dis := k.dis
theorem New.fr {ρ : Env} {σ : L2.St} {G H G' H' : Hp} (n : New G H G' H') : Fr ρ σ G H ρ σ G' H' := ⟨n.gro, fun a o h no => ⟨n.kept _ _ h, n.old a o h, no⟩, fun a o h => ⟨o, n.kept _ _ h⟩⟩

/-- an owned object becomes a value for ever -/
theorem Ok.freeze {K : PySem.W.Frag} {T : Tab} {τ : Nat → Addr} {ρ : Env} {σ : L2.St} {G H : Hp} {i t : Nat} {o : OD} (k : Ok K T τ ρ σ G H) (e : ρ[i]? = some (some (B.own t o))) :
    ∃ a G', σ[i]? = some (some (V.ref a)) ∧ Rz K T G' (.ref a) o.toD ∧ Ok K T τ (ρ.set i (some (B.val o.toD))) σ G' H ∧ Fr ρ σ G H (ρ.set i (some (B.val o.toD))) σ G' H := by
  obtain ⟨a, e1, g, r, ht⟩ := k.own i t o e
  obtain ⟨u, hu⟩ := r.there
  have hi : i < ρ.length := (List.getElem?_eq_some_iff.mp e).1
  have sg : Same G (upd G a u) := Same.upd g
  have sh : Same (upd G a u) H := fun b x q => by
    by_cases hb : b = a
    · subst hb; rw [upd_same] at q; rw [hu]; exact q
    · rw [upd_ne hb] at q; exact k.sub _ _ q
  have rz : Rz K T (upd G a u) (.ref a) o.toD := by
    cases o with
    | lst ds =>
      obtain ⟨xs, q1, q2⟩ := r
      rw [hu] at q1; cases q1
      show Rz K T _ _ (.lst ds)
      rw [Rz]
      exact ⟨a, xs, rfl, upd_same, q2.mono sg⟩
    | ins c ds =>
      obtain ⟨dx, fs, q1, q2, q3⟩ := r
      rw [hu] at q1; cases q1
      show Rz K T _ _ (.ins c ds)
      rw [Rz]
      exact ⟨a, dx, fs, rfl, upd_same, q2, q3.mono sg⟩
  refine ⟨a, upd G a u, e1, rz, ⟨sh, by rw [List.length_set]; exact k.len, fun j d q => ?_, fun j t' o' q => ?_, fun j l t1 t2 o1 o2 b q1 q2 => ?_⟩, ⟨sg, fun b x hb no => ?_, fun b x hb => ⟨x, hb⟩⟩⟩
  · by_cases hj : i = j
    · subst hj
      rw [List.getElem?_set_self hi] at q
      cases q
      exact ⟨_, e1, rz⟩
    · rw [List.getElem?_set_ne hj] at q
      obtain ⟨v, q1, q2⟩ := k.val j d q
      exact ⟨v, q1, q2.mono sg⟩
  · by_cases hj : i = j
    · subst hj
      rw [List.getElem?_set_self hi] at q
      cases q
    · rw [List.getElem?_set_ne hj] at q
      obtain ⟨b, q1, q2, q3, q4⟩ := k.own j t' o' q
      have hb : b ≠ a := fun z => by
        subst z
        exact hj (k.dis i j _ _ _ _ b e q e1 q1)
      exact ⟨b, q1, by rw [upd_ne hb]; exact q2, q3.mono sg fun u h => h, q4⟩
  · have n1 : i ≠ j := fun z => by subst z; rw [List.getElem?_set_self hi] at q1; cases q1
    have n2 : i ≠ l := fun z => by subst z; rw [List.getElem?_set_self hi] at q2; cases q2
    rw [List.getElem?_set_ne n1] at q1
    rw [List.getElem?_set_ne n2] at q2
    exact k.dis j l _ _ _ _ b q1 q2
  · have hba : b ≠ a := fun z => by subst z; exact no ⟨i, t, o, e, e1⟩
    refine ⟨hb, upd_ne hba, fun ⟨j, t', o', q1, q2⟩ => ?_⟩
    have n1 : i ≠ j := fun z => by subst z; rw [List.getElem?_set_self hi] at q1; cases q1
    rw [List.getElem?_set_ne n1] at q1
    exact no ⟨j, t', o', q1, q2⟩
end Zd
end
section
/-! Zd 2: judgements; how pieces are joined. -/
namespace Zd
open PySem PySem.Spec PyProof.Rows L2
set_option autoImplicit false

/-- a value for ever, or an owned object as it stands now -/
def Rb (K : PySem.W.Frag) (T : Tab) (G H : Hp) (v : V) (d : D) : Prop := Rz K T G v d ∨ ∃ a o, v = .ref a ∧ d = o.toD ∧ RO K T G H a o
/-- an operand: a value, or a slot that is read when all operands are there -/
inductive Op where
  | v (d : D) | pl (i : Nat) | fr (o : OD)
def bVal : B → D
  | .val d => d
  | .own _ o => o.toD
def res (ρ : Env) : Op → Option D
  | .v d => some d
  | .fr o => some o.toD
  | .pl i => match ρ[i]? with
    | some (some b) => some (bVal b)
    | _ => none
def RpOp (K : PySem.W.Frag) (T : Tab) (ρ : Env) (σ : L2.St) (G H : Hp) (v : V) : Op → Prop
  | .v d => Rz K T G v d
  | .pl i => σ[i]? = some (some v)
  | .fr o => ∃ a, v = .ref a ∧ G a = none ∧ RO K T G H a o ∧ ¬ OwnAt ρ σ a
/-- a new object's address was free ahead -/
def FreshV (H : Hp) (v : V) (o : Op) : Prop := ∀ od, o = .fr od → ∃ a, v = .ref a ∧ H a = none
section
variable {K : PySem.W.Frag} {T : Tab} {τ : Nat → Addr} {ρ ρ' : Env} {σ : L2.St} {G G' H H' : Hp}
theorem RpOp.fr {v : V} {o : Op} (f : Fr ρ σ G H ρ' σ G' H') (h : RpOp K T ρ σ G H v o) : RpOp K T ρ' σ G' H' v o := by
  cases o with
  | v d => exact Rz.mono f.gro d h
  | pl i => exact h
  | fr o =>
    obtain ⟨a, e, g, r, n⟩ := h
    obtain ⟨u, hu⟩ := r.there
    obtain ⟨h1, h2, h3⟩ := f.keep a u hu n
    refine ⟨a, e, h2.trans g, r.mono f.gro fun w hw => ?_, h3⟩
    rw [hu] at hw; cases hw
    exact h1
theorem Ok.slot (k : Ok K T τ ρ σ G H) {i : Nat} {b : B} {v : V} (e : ρ[i]? = some (some b)) (q : σ[i]? = some (some v)) : Rb K T G H v (bVal b) := by
  cases b with
  | val d =>
    obtain ⟨v', q1, r⟩ := k.val i d e
    rw [q] at q1; cases q1
    exact .inl r
  | own t o =>
    obtain ⟨a, q1, g, r, ht⟩ := k.own i t o e
    rw [q] at q1; cases q1
    exact .inr ⟨a, o, rfl, rfl, r⟩
theorem Ok.resolve (k : Ok K T τ ρ σ G H) {o : Op} {v : V} {d : D} (r : RpOp K T ρ σ G H v o) (e : res ρ o = some d) : Rb K T G H v d := by
  cases o with
  | fr o =>
    cases e
    obtain ⟨a, e, g, r, n⟩ := r
    exact .inr ⟨a, o, e, rfl, r⟩
  | v d' =>
    cases e
    exact .inl r
  | pl i =>
    simp only [res] at e
    split at e
    · rename_i b hb
      cases e
      exact k.slot hb r
    · cases e
end

/-! ### exceptions, outcomes -/
/-- an exception as the table tells it -/
def XOk (K : PySem.W.Frag) (T : Tab) (G H : Hp) (cls : Value) (dx : Option Addr) (x : Exc) : Prop :=
  cls = .ref (T.exc x.c) ∧ ∃ d fs, dx = some d ∧ H d = some (.xd fs) ∧ (T.xlay x.c).length = x.xs.length ∧
    ∀ (i : Nat) (n : Str) (e : D), (T.xlay x.c)[i]? = some n → x.xs[i]? = some e → ∃ v, fs.lookup n = some v ∧ Rz K T G v e
section
variable {K : PySem.W.Frag} {T : Tab} {W : WX} {τ : Nat → Addr} {ρ ρ' : Env} {σ σ' : L2.St} {G G' H H' : Hp} {α β : Type}
/-- what an outcome asks: Kk of the new abstract frame, the value and the heaps behind -/
def Out (K : PySem.W.Frag) (T : Tab) (W : WX) (τ : Nat → Addr) (ρ : Env) (σ : L2.St) (G H : Hp) (r : R (Env × α)) (Kk : Env → α → Hp → Hp → Prop) : Prop := match r with
  | .ok p => ∀ G' H', Ok K T τ p.1 σ G' H' → Fr ρ σ G H p.1 σ G' H' → Kk p.1 p.2 G' H'
  | .ex ρ' x => ∀ cls dx G' H', Ok K T τ ρ' σ G' H' → Fr ρ σ G H ρ' σ G' H' → XOk K T G' H' cls dx x → W cls dx σ H'
  | .bad => False
theorem Out.imp {r : R (Env × α)} {Kk Kk' : Env → α → Hp → Hp → Prop} (h : Out K T W τ ρ σ G H r Kk) (f : ∀ ρ' a G' H', Ok K T τ ρ' σ G' H' → Fr ρ σ G H ρ' σ G' H' → Kk ρ' a G' H' → Kk' ρ' a G' H') : Out K T W τ ρ σ G H r Kk' := by
  cases r with
  | ok p => exact fun G' H' k fr => f _ _ _ _ k fr (h G' H' k fr)
  | ex ρ' x => exact h
  | bad => exact h
theorem Out.shift {r : R (Env × α)} {Kk : Env → α → Hp → Hp → Prop} (fr : Fr ρ σ G H ρ' σ G' H') (h : Out K T W τ ρ σ G H r Kk) : Out K T W τ ρ' σ G' H' r Kk := by
  cases r with
  | ok p => exact fun G2 H2 k f2 => h G2 H2 k (fr.trans f2)
  | ex ρ2 x => exact fun cls dx G2 H2 k f2 => h cls dx G2 H2 k (fr.trans f2)
  | bad => exact h
theorem Out.bind {r : R (Env × α)} {f : Env × α → R (Env × β)} {Kk : Env → β → Hp → Hp → Prop} (h : Out K T W τ ρ σ G H (r.bind f) Kk) :
    Out K T W τ ρ σ G H r fun ρ1 a G1 H1 => Out K T W τ ρ1 σ G1 H1 (f (ρ1, a)) Kk := by
  cases r with
  | ok p => exact fun G1 H1 k fr => Out.shift fr h
  | ex ρ2 x => exact h
  | bad => exact h
/-- an end with nothing changed but new things -/
theorem Out.here {a : α} {Kk : Env → α → Hp → Hp → Prop} (h : Out K T W τ ρ σ G H (.ok (ρ, a)) Kk) (k : Ok K T τ ρ σ G H) (n : New G H G' H') : Kk ρ a G' H' := h G' H' (k.new n) n.fr
end

abbrev DEn := Env → R (Env × D)
abbrev DOn := Env → R (Env × Op)
abbrev DAn := Env → R (Env × List Op)
abbrev DTn := Env → R (Env × Bool)
section
variable (K : PySem.W.Frag) (T : Tab) (W : WX)
def tE (d : DEn) : TE := fun σ H Q => ∃ τ ρ G, Ok K T τ ρ σ G H ∧ Out K T W τ ρ σ G H (d ρ) fun _ r G' H' => ∀ v, Rz K T G' v r → Q v H'
def tO (d : DOn) : TE := fun σ H Q => ∃ τ ρ G, Ok K T τ ρ σ G H ∧ Out K T W τ ρ σ G H (d ρ) fun ρ' r G' H' => ∀ v, RpOp K T ρ' σ G' H' v r → FreshV H v r → Q v H'
/-- new objects stand apart -/
def Apart (v : V) (o : Op) (vs : List V) (os : List Op) : Prop := ∀ od, o = .fr od → ∀ (j : Nat) (od' : OD), os[j]? = some (Op.fr od') → vs[j]? ≠ some v
def RpOps (ρ : Env) (σ : L2.St) (G H : Hp) : List V → List Op → Prop
  | [], [] => True
  | v :: vs, o :: os => RpOp K T ρ σ G H v o ∧ RpOps ρ σ G H vs os ∧ Apart v o vs os
  | _, _ => False
def FreshVs (H : Hp) (vs : List V) (os : List Op) : Prop := ∀ (j : Nat) (od : OD), os[j]? = some (Op.fr od) → ∃ a, vs[j]? = some (V.ref a) ∧ H a = none
def tA (d : DAn) : TA := fun σ H Q => ∃ τ ρ G, Ok K T τ ρ σ G H ∧ Out K T W τ ρ σ G H (d ρ) fun ρ' r G' H' => ∀ vs, RpOps K T ρ' σ G' H' vs r → FreshVs H vs r → Q vs H'
def tTn (d : DTn) : TT := fun σ H Q => ∃ τ ρ G, Ok K T τ ρ σ G H ∧ Out K T W τ ρ σ G H (d ρ) fun _ b _ H' => Q b H'
end
/-- THE JUDGEMENTS: an expression's value for ever; an operand; arguments; a test -/
def DE (X : Cx) (T : Tab) (W : WX) (e : Expr) (d : DEn) : Prop := PE X e (tE X.K T W d)
def DO (X : Cx) (T : Tab) (W : WX) (e : Expr) (d : DOn) : Prop := PE X e (tO X.K T W d)
def DA (X : Cx) (T : Tab) (W : WX) (es : List Expr) (d : DAn) : Prop := PA X es (tA X.K T W d)
def DT (X : Cx) (T : Tab) (W : WX) (e : Expr) (d : DTn) : Prop := PT X e (tTn X.K T W d)
def DW (X : Cx) (T : Tab) (W : WX) (e : Expr) (d : DTn) : Prop := PW X e (tTn X.K T W d)
theorem PE.imp {X : Cx} {e : Expr} {t t' : TE} (h : PE X e t) (i : ∀ σ H Q, t' σ H Q → t σ H Q) : PE X e t' := ⟨fun pins s σ H Q I q => h.run pins s σ H Q I (i _ _ _ q)⟩
theorem PT.imp {X : Cx} {e : Expr} {t t' : TT} (h : PT X e t) (i : ∀ σ H Q, t' σ H Q → t σ H Q) : PT X e t' := ⟨fun pins s σ H Q I q => h.run pins s σ H Q I (i _ _ _ q)⟩
theorem PW.imp {X : Cx} {e : Expr} {t t' : TT} (h : PW X e t) (i : ∀ σ H Q, t' σ H Q → t σ H Q) : PW X e t' := ⟨fun wh pins s σ H Q I q => h.run wh pins s σ H Q I (i _ _ _ q)⟩
theorem PA.imp {X : Cx} {es : List Expr} {t t' : TA} (h : PA X es t) (i : ∀ σ H Q, t' σ H Q → t σ H Q) : PA X es t' := ⟨fun pos pins s σ H Q I q => h.run pos pins s σ H Q I (i _ _ _ q)⟩
theorem PE.ors {X : Cx} {e : Expr} {ι : Sort _} {t : ι → TE} (h : ∀ i, PE X e (t i)) : PE X e (fun σ H Q => ∃ i, t i σ H Q) := ⟨fun pins s σ H Q I ⟨i, q⟩ => (h i).run pins s σ H Q I q⟩

section
variable {X : Cx} {T : Tab} {W : WX} {pos : Pos}
/-! ### operands and arguments -/
def oV (d : DEn) : DOn := fun ρ => (d ρ).bind fun p => .ok (p.1, .v p.2)
def oPl (i : Nat) : DOn := fun ρ => match ρ[i]? with
  | some (some _) => .ok (ρ, .pl i)
  | _ => .bad
theorem do_v {e : Expr} {d : DEn} (h : DE X T W e d) : DO X T W e (oV d) := by
  refine PE.imp h fun σ H Q q => ?_
  obtain ⟨τ, ρ, G, k, q⟩ := q
  refine ⟨τ, ρ, G, k, (Out.bind q).imp fun ρ' a G' H' k' fr h' v rz => ?_⟩
  exact h' G' H' k' Fr.refl v rz (fun _ z => nomatch z)
theorem do_pl {i : Nat} {x : Str} (h : PE X (.Name x pos) (tVar i)) : DO X T W (.Name x pos) (oPl i) := by
  refine PE.imp h fun σ H Q q => ?_
  obtain ⟨τ, ρ, G, k, q⟩ := q
  unfold oPl at q
  cases e : ρ[i]? with
  | none => rw [e] at q; exact q.elim
  | some b =>
    cases b with
    | none => rw [e] at q; exact q.elim
    | some b =>
      rw [e] at q
      have hv : ∃ v, σ[i]? = some (some v) := by
        cases b with
        | val d => obtain ⟨v, q1, _⟩ := k.val i d e; exact ⟨v, q1⟩
        | own t o => obtain ⟨a, q1, _⟩ := k.own i t o e; exact ⟨_, q1⟩
      obtain ⟨v, hv⟩ := hv
      exact ⟨v, hv, q G H k Fr.refl v hv (fun _ z => nomatch z)⟩
def aNil : DAn := fun ρ => .ok (ρ, [])
def aCons (o : DOn) (a : DAn) : DAn := fun ρ => (o ρ).bind fun p => (a p.1).bind fun q => .ok (q.1, p.2 :: q.2)
theorem da_nil : DA X T W [] aNil := by
  refine PA.imp pa_nil fun σ H Q q => ?_
  obtain ⟨τ, ρ, G, k, q⟩ := q
  exact q G H k Fr.refl [] True.intro (fun j od e => by simp at e)
theorem da_cons {e : Expr} {es : List Expr} {o : DOn} {a : DAn} (h : DO X T W e o) (r : DA X T W es a) (hs : starEach (e :: es) X.env = (false, eval e X.env) :: starEach es X.env := by rfl) : DA X T W (e :: es) (aCons o a) := by
  refine PA.imp (pa_cons h r hs) fun σ H Q q => ?_
  obtain ⟨τ, ρ, G, k, q⟩ := q
  refine ⟨τ, ρ, G, k, (Out.bind q).imp fun ρ1 op G1 H1 k1 fr1 q1 v rv fv => ?_⟩
  refine ⟨τ, ρ1, G1, k1, (Out.bind q1).imp fun ρ2 ops G2 H2 k2 fr2 q2 vs rvs fvs => ?_⟩
  refine q2 G2 H2 k2 Fr.refl (v :: vs) ⟨rv.fr fr2, rvs, fun od eo j od' ej => ?_⟩ fun j od ej => ?_
  · subst eo
    obtain ⟨b, e1, e2⟩ := fvs j od' ej
    obtain ⟨a, e3, g, r, n⟩ := rv
    obtain ⟨u, hu⟩ := r.there
    rw [e1, e3]
    intro z
    injection z with z
    injection z with z
    rw [z, hu] at e2; cases e2
  · cases j with
    | zero =>
      simp at ej
      obtain ⟨a, e1, e2⟩ := fv od ej
      exact ⟨a, by simp [e1], e2⟩
    | succ j =>
      rw [List.getElem?_cons_succ] at ej
      obtain ⟨a, e1, e2⟩ := fvs j od ej
      exact ⟨a, by rw [List.getElem?_cons_succ]; exact e1, fr1.free e2⟩
/-- all operands read -/
def resAll (ρ : Env) : List Op → Option (List D)
  | [] => some []
  | o :: os => match res ρ o, resAll ρ os with
    | some d, some ds => some (d :: ds)
    | _, _ => none
def RbL (K : PySem.W.Frag) (T : Tab) (G H : Hp) : List V → List D → Prop
  | [], [] => True
  | v :: vs, d :: ds => Rb K T G H v d ∧ RbL K T G H vs ds
  | _, _ => False
theorem Ok.resolveAll {K : PySem.W.Frag} {τ : Nat → Addr} {ρ : Env} {σ : L2.St} {G H : Hp} (k : Ok K T τ ρ σ G H) : ∀ {os : List Op} {vs : List V} {ds : List D}, RpOps K T ρ σ G H vs os → resAll ρ os = some ds → RbL K T G H vs ds
  | [], [], ds, _, e => by cases e; trivial
  | o :: os, v :: vs, ds, r, e => by
    unfold resAll at e
    split at e
    · rename_i d ds' h1 h2
      cases e
      exact ⟨k.resolve r.1 h1, Ok.resolveAll k r.2.1 h2⟩
    · cases e
  | [], _ :: _, _, r, _ => r.elim
  | _ :: _, [], _, r, _ => r.elim
/-! ### joining with the layer's rules: two operands; a call by values -/
/-- a rule by values does what f tells -/
def Snd2 (K : PySem.W.Frag) (T : Tab) (r : R2) (f : D → D → Option D) : Prop :=
  ∀ (x y : V) (a b d : D) (G H : Hp) (Q : VK), Same G H → Rb K T G H x a → Rb K T G H y b → f a b = some d → (∀ v G' H', New G H G' H' → Rz K T G' v d → Q v H') → r x y H Q
def SndL (K : PySem.W.Frag) (T : Tab) (r : List V → Hp → VK → Prop) (f : List D → Option D) : Prop :=
  ∀ (vs : List V) (ds : List D) (d : D) (G H : Hp) (Q : VK), Same G H → RbL K T G H vs ds → f ds = some d → (∀ v G' H', New G H G' H' → Rz K T G' v d → Q v H') → r vs H Q
def d2 (f : D → D → Option D) (a b : DOn) : DEn := fun ρ => (a ρ).bind fun p => (b p.1).bind fun q => match res q.1 p.2, res q.1 q.2 with
  | some x, some y => (ofO (f x y)).bind fun d => .ok (q.1, d)
  | _, _ => .bad
theorem tOp_of {r : R2} {f : D → D → Option D} {oa ob : DOn} (hs : Snd2 X.K T r f) (σ : L2.St) (H : Hp) (Q : VK) (q : tE X.K T W (d2 f oa ob) σ H Q) : tOp r (tO X.K T W oa) (tO X.K T W ob) σ H Q := by
  obtain ⟨τ, ρ, G, k, q⟩ := q
  refine ⟨τ, ρ, G, k, (Out.bind q).imp fun ρ1 op G1 H1 k1 fr1 q1 v rv fv => ?_⟩
  refine ⟨τ, ρ1, G1, k1, (Out.bind q1).imp fun ρ2 op2 G2 H2 k2 fr2 q2 y ry fy => ?_⟩
  dsimp only at q2
  split at q2
  · rename_i a b h1 h2
    cases h3 : f a b with
    | none => rw [h3] at q2; exact q2.elim
    | some d =>
      rw [h3] at q2
      exact hs v y a b d G2 H2 Q k2.sub (k2.resolve (rv.fr fr2) h1) (k2.resolve ry h2) h3 fun z G3 H3 n rz => q2 G3 H3 (k2.new n) n.fr z rz
  · exact q2.elim
theorem de_op {op : Operator} {r : R2} {f : D → D → Option D} {a b : Expr} {oa ob : DOn} (hs : Snd2 X.K T r f) (ho : OpR X (binaryOp op) r) (ha : DO X T W a oa) (hb : DO X T W b ob) : DE X T W (.BinOp a op b pos) (d2 f oa ob) :=
  PE.imp (pe_op ho ha hb) fun σ H Q q => tOp_of hs σ H Q q
theorem de_cmp {op : CmpOp} {r : R2} {f : D → D → Option D} {a b : Expr} {oa ob : DOn} (hs : Snd2 X.K T r f) (ho : OpR X (compareOp op) r) (ha : DO X T W a oa) (hb : DO X T W b ob) (hm : behindInMarks op b = false := by first | exact nomark _ | rfl) :
    DE X T W (.Compare a [op] [b] pos) (d2 f oa ob) := PE.imp (pe_cmpR ho ha hb hm) fun σ H Q q => tOp_of hs σ H Q q
def dBl (d : DEn) : DTn := fun ρ => (d ρ).bind fun p => match p.2 with
  | .bl b => .ok (p.1, b)
  | _ => .bad
theorem tTest_of {K : PySem.W.Frag} {d : DEn} {t : TE} (ht : ∀ σ H Q, tE K T W d σ H Q → t σ H Q) (σ : L2.St) (H : Hp) (Q : Bool → Hp → Prop) (q : tTn K T W (dBl d) σ H Q) : tTest t σ H Q := by
  obtain ⟨τ, ρ, G, k, q⟩ := q
  refine ht _ _ _ ⟨τ, ρ, G, k, (Out.bind q).imp fun ρ1 r G1 H1 k1 fr1 q1 v rv => ?_⟩
  cases r with
  | bl b =>
    have e : v = .bl b := by rw [Rz] at rv; exact rv
    exact ⟨b, e, q1 G1 H1 k1 Fr.refl⟩
  | _ => exact q1.elim
theorem dt_cmp {op : CmpOp} {r : R2} {f : D → D → Option D} {a b : Expr} {oa ob : DOn} (hs : Snd2 X.K T r f) (ho : OpR X (compareOp op) r) (ha : DO X T W a oa) (hb : DO X T W b ob) (hm : behindInMarks op b = false := by first | exact nomark _ | rfl) :
    DT X T W (.Compare a [op] [b] pos) (dBl (d2 f oa ob)) := PT.imp (pt_cmpR ho ha hb hm) fun σ H Q q => tTest_of (fun _ _ _ => tOp_of hs _ _ _) σ H Q q
/-- a built-in's call by values -/
def dL (f : List D → Option D) (a : DAn) : DEn := fun ρ => (a ρ).bind fun p => match resAll p.1 p.2 with
  | some ds => (ofO (f ds)).bind fun d => .ok (p.1, d)
  | none => .bad
theorem tCB_of {r : List V → Hp → VK → Prop} {f : List D → Option D} {a : DAn} (hs : SndL X.K T r f) (σ : L2.St) (H : Hp) (Q : VK) (q : tE X.K T W (dL f a) σ H Q) : tCB r (tA X.K T W a) σ H Q := by
  obtain ⟨τ, ρ, G, k, q⟩ := q
  refine ⟨τ, ρ, G, k, (Out.bind q).imp fun ρ1 ops G1 H1 k1 fr1 q1 vs rvs fvs => ?_⟩
  dsimp only at q1
  split at q1
  · rename_i ds h1
    cases h3 : f ds with
    | none => rw [h3] at q1; exact q1.elim
    | some d =>
      rw [h3] at q1
      exact hs vs ds d G1 H1 Q k1.sub (k1.resolveAll rvs h1) h3 fun z G3 H3 n rz => q1 G3 H3 (k1.new n) n.fr z rz
  · exact q1.elim
theorem de_callB {x : Str} {id : String} {r : List V → Hp → VK → Prop} {f : List D → Option D} {e : Expr} {es : List Expr} {a : DAn} {p : Pos} (hs : SndL X.K T r f) (hc : CallR X (.builtin id) r) (ha : DA X T W (e :: es) a) (hm : X.mg x = none)
    (hv : bootBuiltins x = some (.builtin id)) (hg : Gl X x := by rfl) (hn : x ≠ "__name__" := by decide) (hdb : (x == ("__debug__" : Str)) = false := by decide)
    (he : starEach (e :: es) X.env = (false, eval e X.env) :: starEach es X.env := by rfl) (hpl : (backTo pos (starEach es X.env)).any (·.1) = false := by rfl) : DE X T W (.Call (.Name x p) (e :: es) [] pos) (dL f a) :=
  PE.imp (pe_callB hc hg hm hv ha hn hdb he hpl) fun σ H Q q => tCB_of hs σ H Q q
theorem de_callTy {x : Str} {id : String} {r : List V → Hp → VK → Prop} {f : List D → Option D} {e : Expr} {es : List Expr} {a : DAn} {p : Pos} (hs : SndL X.K T r f) (hc : CallR X (.type id) r) (ha : DA X T W (e :: es) a) (hm : X.mg x = none)
    (hv : bootBuiltins x = some (.type id)) (hg : Gl X x := by rfl) (hn : x ≠ "__name__" := by decide) (hdb : (x == ("__debug__" : Str)) = false := by decide)
    (he : starEach (e :: es) X.env = (false, eval e X.env) :: starEach es X.env := by rfl) (hpl : (backTo pos (starEach es X.env)).any (·.1) = false := by rfl) : DE X T W (.Call (.Name x p) (e :: es) [] pos) (dL f a) :=
  PE.imp (pe_callTy hc hg hm hv ha hn hdb he hpl) fun σ H Q q => tCB_of hs σ H Q q
end
end Zd
end
section
/-! Zd 3: expressions. -/
namespace Zd
open PySem PySem.Spec PyProof.Rows L2
set_option autoImplicit false

/-- a size that no line forbids -/
def sz {α : Type} (n : Nat) (r : R α) : R α := if n ≤ 1000000 then r else .bad
theorem sz_ok {α : Type} {n : Nat} {r : R α} (h : n ≤ 1000000) : sz n r = r := if_pos h
theorem line_of {n : Nat} (h : n ≤ 1000000) : n ≤ sizeLine := by rw [sizeLine_eq]; omega

section
variable {K : PySem.W.Frag} {T : Tab} {G H : Hp} {v : V} {ds : List D}
theorem Rb.lst (s : Same G H) (h : Rb K T G H v (.lst ds)) : ∃ a xs, v = .ref a ∧ H a = some (.lst xs) ∧ RzL K T G xs ds := by
  rcases h with h | ⟨a, o, e1, e2, h⟩
  · rw [Rz] at h
    obtain ⟨a, xs, e1, e2, e3⟩ := h
    exact ⟨a, xs, e1, s _ _ e2, e3⟩
  · cases o with
    | lst es =>
      cases e2
      obtain ⟨xs, q1, q2⟩ := h
      exact ⟨a, xs, e1, q1, q2⟩
    | ins c es => cases e2
theorem Rb.tup (s : Same G H) (h : Rb K T G H v (.tup ds)) : ∃ a xs, v = .ref a ∧ SqP K G a xs ∧ RzL K T G xs ds := by
  rcases h with h | ⟨a, o, e1, e2, h⟩
  · rw [Rz] at h; exact h
  · cases o <;> cases e2
theorem Rb.frz (s : Same G H) (h : Rb K T G H v (.frz ds)) : ∃ a xs, v = .ref a ∧ SqL K H a xs ∧ RzL K T G xs ds := by
  rcases h with h | ⟨a, o, e1, e2, h⟩
  · rw [Rz] at h
    obtain ⟨a, xs, e1, e2, e3⟩ := h
    exact ⟨a, xs, e1, s.seq e2, e3⟩
  · cases o <;> cases e2
theorem Rb.ins (s : Same G H) {c : Nat} (h : Rb K T G H v (.ins c ds)) : ∃ a dx fs, v = .ref a ∧ H a = some (.ins (T.cls c) dx fs) ∧ fs.map (·.1) = (T.lay c).take ds.length ∧ RzL K T G (fs.map (·.2)) ds := by
  rcases h with h | ⟨a, o, e1, e2, h⟩
  · rw [Rz] at h
    obtain ⟨a, dx, fs, e1, e2, e3, e4⟩ := h
    exact ⟨a, dx, fs, e1, s _ _ e2, e3, e4⟩
  · cases o with
    | ins c' es =>
      cases e2
      obtain ⟨dx, fs, q1, q2, q3⟩ := h
      exact ⟨a, dx, fs, e1, q1, q2, q3⟩
    | lst es => cases e2
theorem Rb.int {i : Int} (h : Rb K T G H v (.int i)) : v = .int i := by
  rcases h with h | ⟨a, o, e1, e2, h⟩
  · rw [Rz] at h; exact h
  · cases o <;> cases e2
theorem Rb.bl {i : Bool} (h : Rb K T G H v (.bl i)) : v = .bl i := by
  rcases h with h | ⟨a, o, e1, e2, h⟩
  · rw [Rz] at h; exact h
  · cases o <;> cases e2
theorem Rb.str {i : Str} (h : Rb K T G H v (.str i)) : v = .str i := by
  rcases h with h | ⟨a, o, e1, e2, h⟩
  · rw [Rz] at h; exact h
  · cases o <;> cases e2
theorem Rb.non (h : Rb K T G H v .non) : v = .non := by
  rcases h with h | ⟨a, o, e1, e2, h⟩
  · rw [Rz] at h; exact h
  · cases o <;> cases e2
theorem Rz.int_ {i : Int} : Rz K T G (.int i) (.int i) := by rw [Rz]
theorem Rz.bl_ {i : Bool} : Rz K T G (.bl i) (.bl i) := by rw [Rz]
theorem Rz.str_ {i : Str} : Rz K T G (.str i) (.str i) := by rw [Rz]
theorem Rz.non_ : Rz K T G .non .non := by rw [Rz]
theorem Rz.tup_ {a : Addr} {xs : List V} (h : SqP K G a xs) (r : RzL K T G xs ds) : Rz K T G (.ref a) (.tup ds) := by rw [Rz]; exact ⟨a, xs, rfl, h, r⟩
theorem Rz.lst_ {a : Addr} {xs : List V} (h : G a = some (.lst xs)) (r : RzL K T G xs ds) : Rz K T G (.ref a) (.lst ds) := by rw [Rz]; exact ⟨a, xs, rfl, h, r⟩
end

section
variable {X : Cx} {T : Tab} {W : WX} {pos : Pos}
/-! ### names, constants -/
def dName (i : Nat) : DEn := fun ρ => match ρ[i]? with
  | some (some (.val d)) => .ok (ρ, d)
  | some (some (.own _ o)) => .ok (ρ.set i (some (.val o.toD)), o.toD)
  | _ => .bad
theorem de_name {i : Nat} {x : Str} (h : PE X (.Name x pos) (tVar i)) : DE X T W (.Name x pos) (dName i) := by
  refine PE.imp h fun σ H Q q => ?_
  obtain ⟨τ, ρ, G, k, q⟩ := q
  unfold dName at q
  split at q
  · rename_i d e
    obtain ⟨v, q1, r⟩ := k.val i d e
    exact ⟨v, q1, q G H k Fr.refl v r⟩
  · rename_i t o e
    obtain ⟨a, G', q1, r, k', fr⟩ := k.freeze e
    exact ⟨_, q1, q G' H k' fr _ r⟩
  · exact q.elim
def dC (d : D) : DEn := fun ρ => .ok (ρ, d)
theorem de_const {e : Expr} {v : V} {d : D} (h : PE X e (tC v)) (r : ∀ G, Rz X.K T G v d) : DE X T W e (dC d) := by
  refine PE.imp h fun σ H Q q => ?_
  obtain ⟨τ, ρ, G, k, q⟩ := q
  exact q G H k Fr.refl v (r G)
theorem de_int {i : Int} {j} : DE X T W (.Constant (.int i) j pos) (dC (.int i)) := de_const pe_int fun _ => Rz.int_
theorem de_bl {b : Bool} {j} : DE X T W (.Constant (.bool b) j pos) (dC (.bl b)) := de_const pe_bl fun _ => Rz.bl_
theorem de_non {j} : DE X T W (.Constant .none j pos) (dC .non) := de_const pe_non fun _ => Rz.non_
theorem de_str {x : Str} {j} : DE X T W (.Constant (.str x) j pos) (dC (.str x)) := de_const pe_str fun _ => Rz.str_
theorem de_glob {x : Str} {v : V} {u : Value} {d : D} (hm : X.mg x = some u) (r : RelV v u) (rz : ∀ G, Rz X.K T G v d) (hg : Gl X x := by rfl) (hd : (x == ("__debug__" : Str)) = false := by decide) : DE X T W (.Name x pos) (dC d) :=
  de_const (pe_glob hg hm r hd) rz

/-! ### displays -/
def vals : List Op → Option (List D)
  | [] => some []
  | .v d :: os => (vals os).map (d :: ·)
  | .pl _ :: _ => none
  | .fr _ :: _ => none
theorem rz_vals {K : PySem.W.Frag} {ρ : Env} {σ : L2.St} {G H : Hp} : ∀ {os : List Op} {vs : List V} {ds : List D}, RpOps K T ρ σ G H vs os → vals os = some ds → RzL K T G vs ds
  | [], [], ds, _, e => by cases e; exact RzL.nil
  | .v d :: os, v :: vs, ds, r, e => by
    unfold vals at e
    cases h : vals os with
    | none => rw [h] at e; cases e
    | some es =>
      rw [h] at e; cases e
      exact RzL.cons r.1 (rz_vals r.2.1 h)
  | .pl i :: os, _ :: _, ds, _, e => by unfold vals at e; cases e
  | .fr o :: os, _ :: _, ds, _, e => by unfold vals at e; cases e
  | [], _ :: _, _, r, _ => r.elim
  | _ :: _, [], _, r, _ => r.elim
def dTup (a : DAn) : DEn := fun ρ => (a ρ).bind fun p => match vals p.2 with
  | some ds => sz ds.length (.ok (p.1, .tup ds))
  | none => .bad
theorem ep_tup {pins : List (Addr × Obj)} {σ : L2.St} {H : Hp} {s : Shared} {Q : VK} {its : List Value} {xs : List V} (I : Inv X pins σ H s) (r : Vals xs its) (hz : xs.length ≤ sizeLine) (q : ∀ p (o : Obj), H p = none → o.dict = none → Q (.ref p) (upd H p (.frz o (.tup xs)))) :
    EP X pins σ Q (.ref s.heap.objs.size) { s with heap := s.heap.push { cls := .type "tuple", data := .seq its.toArray } } :=
  ⟨.ref s.heap.objs.size, upd H s.heap.objs.size (.frz { cls := .type "tuple", data := .seq its.toArray } (.tup xs)), I.laid (t' := s.toks) (fun b u e => Heap.get?_push_of_some _ e) (Nat.le_refl _) ⟨Heap.get?_push_size _ rfl, hz, its, r, ⟨_, Heap.get?_push_size _ rfl, rfl, _, rfl⟩⟩, rfl, q _ _ (I.hok.fresh (Nat.le_refl _)) rfl⟩
/-- a new tuple: its object is known to bear no dict -/
def tTupP (t : TA) : TE := fun σ H Q => t σ H fun xs H1 => xs.length ≤ sizeLine ∧ ∀ p (o : Obj), H1 p = none → o.dict = none → Q (.ref p) (upd H1 p (.frz o (.tup xs)))
theorem pe_tupP {es : List Expr} {x1} {t : TA} (h : PA X es t) : PE X (.Tuple es x1 pos) (tTupP t) := by
  refine ⟨fun pins s σ H Q I hq => ?_⟩
  refine wpAny_Tuple_spliced (thn (h.run pos pins s σ H _ I hq) fun us s1 ⟨xs, H1, I1, r, z, q⟩ => ⟨by rw [← r.length]; exact z, ?_⟩)
  have hf : H1 s1.heap.objs.size = none := I1.hok.fresh (Nat.le_refl _)
  refine ⟨.ref s1.heap.objs.size, upd H1 s1.heap.objs.size (.frz { cls := .type "tuple", data := .seq us.toArray } (.tup xs)), I1.laid (t' := s1.toks) (fun b u e => Heap.get?_push_of_some _ e) (Nat.le_refl _) ?_, rfl, q _ _ hf rfl⟩
  exact ⟨Heap.get?_push_size _ rfl, z, us, r, ⟨_, Heap.get?_push_size _ rfl, rfl, _, rfl⟩⟩
theorem tTup_of {a : DAn} (σ : L2.St) (H : Hp) (Q : VK) (q : tE X.K T W (dTup a) σ H Q) : tTupP (tA X.K T W a) σ H Q := by
  obtain ⟨τ, ρ, G, k, q⟩ := q
  refine ⟨τ, ρ, G, k, (Out.bind q).imp fun ρ1 ops G1 H1 k1 fr1 q1 vs rvs fvs => ?_⟩
  dsimp only at q1
  split at q1
  · rename_i ds h1
    have rz := rz_vals rvs h1
    by_cases hz : ds.length ≤ 1000000
    · rw [sz_ok hz] at q1
      refine ⟨line_of (by rw [rz.len]; exact hz), fun p o hp ho => ?_⟩
      have n := New.one (o := .frz o (.tup vs)) k1.sub hp
      exact q1 _ _ (k1.new n) n.fr _ (Rz.tup_ (.inl ⟨o, upd_same, ho⟩) (rz.mono n.gro))
    · unfold sz at q1; rw [if_neg hz] at q1; exact q1.elim
  · exact q1.elim
theorem de_tup {es : List Expr} {x1} {a : DAn} (h : DA X T W es a) : DE X T W (.Tuple es x1 pos) (dTup a) := PE.imp (pe_tupP h) fun σ H Q q => tTup_of σ H Q q
/-- a new list; F: what becomes of it (owned, or frozen at once) -/
def dLst (a : DAn) : DEn := fun ρ => (a ρ).bind fun p => match vals p.2 with
  | some ds => sz ds.length (.ok (p.1, .lst ds))
  | none => .bad
theorem de_lst {es : List Expr} {a : DAn} (h : DA X T W es a) : DE X T W (.List es pos) (dLst a) := by
  refine PE.imp (pe_lst h) fun σ H Q q => ?_
  obtain ⟨τ, ρ, G, k, q⟩ := q
  refine ⟨τ, ρ, G, k, (Out.bind q).imp fun ρ1 ops G1 H1 k1 fr1 q1 vs rvs fvs => ?_⟩
  dsimp only at q1
  split at q1
  · rename_i ds h1
    have rz := rz_vals rvs h1
    by_cases hz : ds.length ≤ 1000000
    · rw [sz_ok hz] at q1
      refine ⟨line_of (by rw [rz.len]; exact hz), fun p hp => ?_⟩
      have n := New.one (o := .lst vs) k1.sub hp
      exact q1 _ _ (k1.new n) n.fr _ (Rz.lst_ upd_same (rz.mono n.gro))
    · unfold sz at q1; rw [if_neg hz] at q1; exact q1.elim
  · exact q1.elim
/-- *e -/
def seqOf : D → Option (List D)
  | .tup ds => some ds
  | .lst ds => some ds
  | .frz ds => some ds
  | _ => none
theorem Rb.seq {K : PySem.W.Frag} {G H : Hp} {v : V} {d : D} {ds : List D} (s : Same G H) (h : Rb K T G H v d) (e : seqOf d = some ds) : ∃ a xs, v = .ref a ∧ (SqT K H a xs ∨ SqL K H a xs) ∧ RzL K T G xs ds := by
  cases d with
  | tup es =>
    cases e
    obtain ⟨a, xs, e1, e2, e3⟩ := Rb.tup s h
    exact ⟨a, xs, e1, .inl (Same.tup s e2.t), e3⟩
  | lst es =>
    cases e
    obtain ⟨a, xs, e1, e2, e3⟩ := Rb.lst s h
    exact ⟨a, xs, e1, .inr (SqL.of e2), e3⟩
  | frz es =>
    cases e
    obtain ⟨a, xs, e1, e2, e3⟩ := Rb.frz s h
    exact ⟨a, xs, e1, .inr e2, e3⟩
  | _ => cases e
def aStar (o : DOn) (a : DAn) : DAn := fun ρ => (o ρ).bind fun p => match (res p.1 p.2).bind seqOf with
  | some ds => (a p.1).bind fun q => .ok (q.1, ds.map Op.v ++ q.2)
  | none => .bad
theorem ops_vals {K : PySem.W.Frag} {ρ : Env} {σ : L2.St} {G H : Hp} : ∀ {xs : List V} {ds : List D} {vs : List V} {os : List Op}, RzL K T G xs ds → RpOps K T ρ σ G H vs os → RpOps K T ρ σ G H (xs ++ vs) (ds.map Op.v ++ os)
  | xs, [], vs, os, h, r => by have := h.nil_inv; subst this; exact r
  | xs, d :: ds, vs, os, h, r => by
    obtain ⟨v, vr, rfl, h1, h2⟩ := h.cons_inv
    exact ⟨h1, ops_vals h2 r, fun _ z => nomatch z⟩
theorem da_star {e : Expr} {p : Pos} {es : List Expr} {o : DOn} {a : DAn} (h : DO X T W e o) (r : DA X T W es a) (hs : starEach (.Starred e p :: es) X.env = (true, eval e X.env) :: starEach es X.env := by rfl) : DA X T W (.Starred e p :: es) (aStar o a) := by
  refine PA.imp (StX.pa_star h r hs) fun σ H Q q => ?_
  obtain ⟨τ, ρ, G, k, q⟩ := q
  refine ⟨τ, ρ, G, k, (Out.bind q).imp fun ρ1 op G1 H1 k1 fr1 q1 v rv fv => ?_⟩
  dsimp only at q1
  split at q1
  · rename_i ds h1
    cases h2 : res ρ1 op with
    | none => rw [h2] at h1; cases h1
    | some d =>
      rw [h2] at h1
      obtain ⟨b, xs, e1, e2, e3⟩ := Rb.seq k1.sub (k1.resolve rv h2) h1
      refine ⟨b, xs, e1, e2, τ, ρ1, G1, k1, (Out.bind q1).imp fun ρ2 ops G2 H2 k2 fr2 q2 vs rvs fvs => ?_⟩
      refine q2 G2 H2 k2 Fr.refl (xs ++ vs) (ops_vals (e3.mono fr2.gro) rvs) fun j od ej => ?_
      have hl := e3.len
      by_cases hj : j < ds.length
      · rw [List.getElem?_append_left (by simpa using hj), List.getElem?_map] at ej
        cases e5 : ds[j]? with
        | none => rw [e5] at ej; cases ej
        | some d => rw [e5] at ej; cases ej
      · rw [List.getElem?_append_right (by simpa using hj), List.length_map] at ej
        obtain ⟨a, e5, e6⟩ := fvs _ od ej
        refine ⟨a, ?_, fr1.free e6⟩
        rw [List.getElem?_append_right (by omega), hl]
        exact e5
  · exact q1.elim

/-! ### and, or, not, if-else -/
def dAnd (a b : DEn) : DEn := fun ρ => (a ρ).bind fun p => match p.2 with
  | .bl true => b p.1
  | .bl false => .ok (p.1, .bl false)
  | _ => .bad
def dOr (a b : DEn) : DEn := fun ρ => (a ρ).bind fun p => match p.2 with
  | .bl false => b p.1
  | .bl true => .ok (p.1, .bl true)
  | _ => .bad
theorem de_one {op} {e : Expr} {d : DEn} (h : DE X T W e d) : DE X T W (.BoolOp op [e] pos) d := pe_one h
theorem de_and {a b : Expr} {rest : List Expr} {da db : DEn} (ha : DE X T W a da) (hb : DE X T W (.BoolOp .And (b :: rest) pos) db) : DE X T W (.BoolOp .And (a :: b :: rest) pos) (dAnd da db) := by
  refine PE.imp (pe_and ha hb) fun σ H Q q => ?_
  obtain ⟨τ, ρ, G, k, q⟩ := q
  refine ⟨τ, ρ, G, k, (Out.bind q).imp fun ρ1 r G1 H1 k1 fr1 q1 v rv => ?_⟩
  dsimp only at q1
  split at q1
  · exact ⟨true, Rb.bl (G := G1) (H := H1) (.inl rv), τ, ρ1, G1, k1, q1⟩
  · exact ⟨false, Rb.bl (G := G1) (H := H1) (.inl rv), q1 G1 H1 k1 Fr.refl _ Rz.bl_⟩
  · exact q1.elim
theorem de_or {a b : Expr} {rest : List Expr} {da db : DEn} (ha : DE X T W a da) (hb : DE X T W (.BoolOp .Or (b :: rest) pos) db) : DE X T W (.BoolOp .Or (a :: b :: rest) pos) (dOr da db) := by
  refine PE.imp (pe_or ha hb) fun σ H Q q => ?_
  obtain ⟨τ, ρ, G, k, q⟩ := q
  refine ⟨τ, ρ, G, k, (Out.bind q).imp fun ρ1 r G1 H1 k1 fr1 q1 v rv => ?_⟩
  dsimp only at q1
  split at q1
  · exact ⟨false, Rb.bl (G := G1) (H := H1) (.inl rv), τ, ρ1, G1, k1, q1⟩
  · exact ⟨true, Rb.bl (G := G1) (H := H1) (.inl rv), q1 G1 H1 k1 Fr.refl _ Rz.bl_⟩
  · exact q1.elim
def dNot (a : DTn) : DEn := fun ρ => (a ρ).bind fun p => .ok (p.1, .bl (!p.2))
def tAndD (a b : DTn) : DTn := fun ρ => (a ρ).bind fun p => if p.2 = true then b p.1 else .ok (p.1, false)
def tOrD (a b : DTn) : DTn := fun ρ => (a ρ).bind fun p => if p.2 = true then .ok (p.1, true) else b p.1
def tNotD (a : DTn) : DTn := fun ρ => (a ρ).bind fun p => .ok (p.1, !p.2)
theorem dw_and1 {a : Expr} {da : DTn} (h : DT X T W a da) : DW X T W (.BoolOp .And [a] pos) da := pw_and1 h
theorem dw_or1 {a : Expr} {da : DTn} (h : DT X T W a da) : DW X T W (.BoolOp .Or [a] pos) da := pw_or1 h
theorem dw_and {a b : Expr} {rest : List Expr} {da db : DTn} (ha : DT X T W a da) (hb : DW X T W (.BoolOp .And (b :: rest) pos) db) : DW X T W (.BoolOp .And (a :: b :: rest) pos) (tAndD da db) := by
  refine PW.imp (pw_and ha hb) fun σ H Q q => ?_
  obtain ⟨τ, ρ, G, k, q⟩ := q
  refine ⟨τ, ρ, G, k, (Out.bind q).imp fun ρ1 r G1 H1 k1 fr1 q1 => ?_⟩
  dsimp only at q1
  cases r with
  | true => rw [if_pos rfl] at q1 ⊢; exact ⟨τ, ρ1, G1, k1, q1⟩
  | false => rw [if_neg Bool.false_ne_true] at q1 ⊢; exact q1 G1 H1 k1 Fr.refl
theorem dw_or {a b : Expr} {rest : List Expr} {da db : DTn} (ha : DT X T W a da) (hb : DW X T W (.BoolOp .Or (b :: rest) pos) db) : DW X T W (.BoolOp .Or (a :: b :: rest) pos) (tOrD da db) := by
  refine PW.imp (pw_or ha hb) fun σ H Q q => ?_
  obtain ⟨τ, ρ, G, k, q⟩ := q
  refine ⟨τ, ρ, G, k, (Out.bind q).imp fun ρ1 r G1 H1 k1 fr1 q1 => ?_⟩
  dsimp only at q1
  cases r with
  | true => rw [if_pos rfl] at q1 ⊢; exact q1 G1 H1 k1 Fr.refl
  | false => rw [if_neg Bool.false_ne_true] at q1 ⊢; exact ⟨τ, ρ1, G1, k1, q1⟩
theorem dt_w {e : Expr} {d : DTn} (h : DW X T W e d) : DT X T W e d := PW.pt h
theorem dt_not {a : Expr} {da : DTn} (h : DT X T W a da) : DT X T W (.UnaryOp .Not a pos) (tNotD da) := by
  refine PT.imp (pt_not h) fun σ H Q q => ?_
  obtain ⟨τ, ρ, G, k, q⟩ := q
  exact ⟨τ, ρ, G, k, (Out.bind q).imp fun ρ1 r G1 H1 k1 fr1 q1 => q1 G1 H1 k1 Fr.refl⟩
/-- a bool's expression as a test -/
theorem dt_val {e : Expr} {d : DEn} (h : DE X T W e d) (he : ∀ whole, isTrue e X.env whole = (do let v ← whole; standAt e.pos; holding [v] (truthy v)) := by intro _; rfl) : DT X T W e (dBl d) := by
  refine PT.imp (pt_val h he) fun σ H Q q => ?_
  exact tTest_of (fun _ _ _ q => q) σ H Q q
/-- not e as a value, e a bool's expression -/
theorem de_not {a : Expr} {da : DEn} (h : DE X T W a da) : DE X T W (.UnaryOp .Not a pos) (dNot (dBl da)) := by
  refine PE.imp (pe_not h) fun σ H Q q => ?_
  obtain ⟨τ, ρ, G, k, q⟩ := q
  refine ⟨τ, ρ, G, k, (Out.bind (Out.bind q)).imp fun ρ1 r G1 H1 k1 fr1 q1 v rv => ?_⟩
  cases r with
  | bl b => exact ⟨b, Rb.bl (G := G1) (H := H1) (.inl rv), q1 G1 H1 k1 Fr.refl G1 H1 k1 Fr.refl _ Rz.bl_⟩
  | _ => exact q1.elim
def dIf (t : DTn) (a b : DEn) : DEn := fun ρ => (t ρ).bind fun p => if p.2 = true then a p.1 else b p.1
theorem de_if {c a b : Expr} {t : DTn} {da db : DEn} (hc : DT X T W c t) (ha : DE X T W a da) (hb : DE X T W b db) : DE X T W (.IfExp c a b pos) (dIf t da db) := by
  refine PE.imp (pe_ifExp hc ha hb) fun σ H Q q => ?_
  obtain ⟨τ, ρ, G, k, q⟩ := q
  refine ⟨τ, ρ, G, k, (Out.bind q).imp fun ρ1 r G1 H1 k1 fr1 q1 => ?_⟩
  dsimp only at q1
  cases r with
  | true => rw [if_pos rfl] at q1 ⊢; exact ⟨τ, ρ1, G1, k1, q1⟩
  | false => rw [if_neg Bool.false_ne_true] at q1 ⊢; exact ⟨τ, ρ1, G1, k1, q1⟩

/-! ### chains a < b < c -/
def d3 (f g : D → D → Option D) (a b c : DOn) : DEn := fun ρ => (a ρ).bind fun p => (b p.1).bind fun q => match res q.1 p.2, res q.1 q.2 with
  | some x, some y => (ofO (f x y)).bind fun d => match d with
    | .bl true => (c q.1).bind fun r => match res r.1 q.2, res r.1 r.2 with
      | some y', some z => (ofO (g y' z)).bind fun e => .ok (r.1, e)
      | _, _ => .bad
    | .bl false => .ok (q.1, .bl false)
    | _ => .bad
  | _, _ => .bad
/-- a rule that gives a bool and makes nothing -/
theorem tChain_of {r r' : R2} {f g : D → D → Option D} {oa ob oc : DOn} (hs : Snd2 X.K T r f) (hs' : Snd2 X.K T r' g) (σ : L2.St) (H : Hp) (Q : VK) (q : tE X.K T W (d3 f g oa ob oc) σ H Q) :
    tChain r r' (tO X.K T W oa) (tO X.K T W ob) (tO X.K T W oc) σ H Q := by
  obtain ⟨τ, ρ, G, k, q⟩ := q
  refine ⟨τ, ρ, G, k, (Out.bind q).imp fun ρ1 op G1 H1 k1 fr1 q1 v rv fv => ?_⟩
  refine ⟨τ, ρ1, G1, k1, (Out.bind q1).imp fun ρ2 op2 G2 H2 k2 fr2 q2 y ry fy => ?_⟩
  dsimp only at q2
  split at q2
  · rename_i a b h1 h2
    cases h3 : f a b with
    | none => rw [h3] at q2; exact q2.elim
    | some d =>
      rw [h3] at q2
      dsimp only [ofO_some, R.bind_ok] at q2
      refine hs v y a b d G2 H2 _ k2.sub (k2.resolve (rv.fr fr2) h1) (k2.resolve ry h2) h3 fun z G3 H3 n rz => ?_
      split at q2
      · refine ⟨true, Rb.bl (G := G3) (H := H3) (.inl rz), ?_⟩
        rw [if_pos rfl]
        refine ⟨τ, ρ2, G3, k2.new n, (Out.bind (Out.shift n.fr q2)).imp fun ρ4 op4 G4 H4 k4 fr4 q4 w rw' fw => ?_⟩
        dsimp only at q4
        split at q4
        · rename_i y' z' h5 h6
          cases h7 : g y' z' with
          | none => rw [h7] at q4; exact q4.elim
          | some e =>
            rw [h7] at q4
            exact hs' y w y' z' e G4 H4 Q k4.sub (k4.resolve (ry.fr (n.fr.trans fr4)) h5) (k4.resolve rw' h6) h7 fun u G5 H5 n5 ru => q4 G5 H5 (k4.new n5) n5.fr u ru
        · exact q4.elim
      · refine ⟨false, Rb.bl (G := G3) (H := H3) (.inl rz), ?_⟩
        rw [if_neg Bool.false_ne_true]
        exact q2 G3 H3 (k2.new n) n.fr _ Rz.bl_
      · exact q2.elim
  · exact q2.elim
theorem de_chain {op op' : CmpOp} {r r' : R2} {f g : D → D → Option D} {a b c : Expr} {oa ob oc : DOn} (hs : Snd2 X.K T r f) (ho : OpR X (compareOp op) r) (hs' : Snd2 X.K T r' g) (ho' : OpR X (compareOp op') r') (ha : DO X T W a oa) (hb : DO X T W b ob) (hc : DO X T W c oc)
    (hm : lastMarks [op, op'] [b, c] = false := by with_unfolding_all rfl) : DE X T W (.Compare a [op, op'] [b, c] pos) (d3 f g oa ob oc) := PE.imp (pe_chain ho ho' ha hb hc hm) fun σ H Q q => tChain_of hs hs' σ H Q q
theorem dt_chain {op op' : CmpOp} {r r' : R2} {f g : D → D → Option D} {a b c : Expr} {oa ob oc : DOn} (hs : Snd2 X.K T r f) (ho : OpR X (compareOp op) r) (hs' : Snd2 X.K T r' g) (ho' : OpR X (compareOp op') r') (ha : DO X T W a oa) (hb : DO X T W b ob) (hc : DO X T W c oc)
    (hm : lastMarks [op, op'] [b, c] = false := by with_unfolding_all rfl) : DT X T W (.Compare a [op, op'] [b, c] pos) (dBl (d3 f g oa ob oc)) := PT.imp (pt_chain ho ho' ha hb hc hm) fun σ H Q q => tTest_of (fun _ _ _ => tChain_of hs hs' _ _ _) σ H Q q
end
end Zd
end
section
/-! Zd 4: attributes, subscripts, slices, operators, comparisons. -/
namespace Zd
open PySem PySem.Spec PyProof.Rows L2
set_option autoImplicit false

section
variable {X : Cx} {T : Tab} {W : WX} {pos : Pos}
/-! ### o.f -/
def dFld (fp : Nat → Option Nat) (o : DOn) : DEn := fun ρ => (o ρ).bind fun p => match res p.1 p.2 with
  | some (.ins c xs) => (ofO ((fp c).bind fun i => xs[i]?)).bind fun d => .ok (p.1, d)
  | _ => .bad
/-- the attribute f stands where fp tells -/
def FldOk (K : PySem.W.Frag) (T : Tab) (f : Str) (fp : Nat → Option Nat) : Prop := ∀ c i, fp c = some i → Cls K (T.cls c) ∧ NoAttr K (T.cls c) f ∧ (T.lay c)[i]? = some f ∧ (T.lay c).Nodup
theorem lookup_at {f : Str} : ∀ {fs : List (Str × V)} {L : List Str} {i : Nat} {v : V}, fs.map (·.1) = L → L.Nodup → L[i]? = some f → (fs.map (·.2))[i]? = some v → fs.lookup f = some v
  | [], L, i, v, e, _, h, _ => by rw [← e] at h; simp at h
  | (n, x) :: fs, L, 0, v, e, nd, h, hv => by
    subst e
    simp at h hv
    subst h hv
    simp [List.lookup]
  | (n, x) :: fs, L, i + 1, v, e, nd, h, hv => by
    subst e
    rw [List.map_cons] at nd h hv
    rw [List.getElem?_cons_succ] at h hv
    have hne : ¬ f = n := fun z => (List.nodup_cons.mp nd).1 (by rw [← z]; exact List.mem_of_getElem? h)
    have hb : (f == n) = false := by simpa using hne
    rw [List.lookup, hb]
    exact lookup_at rfl (List.nodup_cons.mp nd).2 h hv
theorem lookup_lay {f : Str} {fs : List (Str × V)} {L : List Str} {n i : Nat} {v : V} (e : fs.map (·.1) = L.take n) (nd : L.Nodup) (h : L[i]? = some f) (hv : (fs.map (·.2))[i]? = some v) : fs.lookup f = some v := by
  refine lookup_at e (nd.sublist (List.take_sublist _ _)) ?_ hv
  have hi : i < fs.length := by
    have := (List.getElem?_eq_some_iff.mp hv).1
    simpa using this
  have hl := congrArg List.length e
  rw [List.length_map, List.length_take] at hl
  rw [List.getElem?_take_of_lt (by omega)]
  exact h
theorem de_fld {o : Expr} {f : Str} {fp : Nat → Option Nat} {oo : DOn} (hf : FldOk X.K T f fp) (h : DO X T W o oo) (hb : attributeBase o f X.env (eval o X.env) = eval o X.env := by rfl) : DE X T W (.Attribute o f pos) (dFld fp oo) := by
  refine PE.imp (pe_fld h hb) fun σ H Q q => ?_
  obtain ⟨τ, ρ, G, k, q⟩ := q
  refine ⟨τ, ρ, G, k, (Out.bind q).imp fun ρ1 op G1 H1 k1 fr1 q1 v rv fv => ?_⟩
  dsimp only at q1
  split at q1
  · rename_i c xs h1
    obtain ⟨a, dx, fs, e1, e2, e3, e4⟩ := Rb.ins k1.sub (k1.resolve rv h1)
    cases h2 : fp c with
    | none => rw [h2] at q1; exact q1.elim
    | some i =>
      rw [h2] at q1
      cases h3 : xs[i]? with
      | none => simp only [Option.bind_some, h3] at q1; exact q1.elim
      | some d =>
        simp only [Option.bind_some, h3, ofO_some, R.bind_ok] at q1
        obtain ⟨v', hv', rz⟩ := e4.get h3
        obtain ⟨f1, f2, f3, f4⟩ := hf c i h2
        exact ⟨a, T.cls c, dx, fs, v', e1, e2, f1, f2, lookup_lay e3 f4 f3 hv', q1 G1 H1 k1 Fr.refl v' rz⟩
  · exact q1.elim

/-! ### o[i] -/
def ixD : D → D → Option D
  | .tup ds, .int i => atI ds i
  | .lst ds, .int i => atI ds i
  | .frz ds, .int i => atI ds i
  | .str s, .int i => if s.length ≤ 1000000 then (atI s.cps.toList i).map fun c => .str ⟨#[c]⟩ else none
  | _, _ => none
theorem atI_rz {K : PySem.W.Frag} {G : Hp} {xs : List V} {ds : List D} {i : Int} {d : D} (r : RzL K T G xs ds) (h : atI ds i = some d) : ∃ v, atI xs i = some v ∧ Rz K T G v d := by
  unfold atI at h ⊢
  rw [r.len]
  cases e : ixN ds.length i with
  | none => rw [e] at h; cases h
  | some j =>
    rw [e] at h
    exact r.get h
theorem snd_ix {K : PySem.W.Frag} : Snd2 K T (rIx K) ixD := by
  intro x y a b d G H Q s ra rb e q
  unfold ixD at e
  split at e
  · obtain ⟨p, xs, rfl, e2, e3⟩ := Rb.tup s ra
    obtain ⟨v, h1, h2⟩ := atI_rz e3 e
    exact .inr (.inl ⟨p, xs, _, v, rfl, rb.int, Same.tup s e2.t, h1, q v G H (New.refl s) h2⟩)
  · obtain ⟨p, xs, rfl, e2, e3⟩ := Rb.lst s ra
    obtain ⟨v, h1, h2⟩ := atI_rz e3 e
    exact .inl ⟨p, xs, _, v, rfl, rb.int, SqL.of e2, h1, q v G H (New.refl s) h2⟩
  · obtain ⟨p, xs, rfl, e2, e3⟩ := Rb.frz s ra
    obtain ⟨v, h1, h2⟩ := atI_rz e3 e
    exact .inl ⟨p, xs, _, v, rfl, rb.int, e2, h1, q v G H (New.refl s) h2⟩
  · split at e
    · rename_i z i hz
      obtain ⟨c, hc, rfl⟩ := Option.map_eq_some_iff.mp e
      exact .inr (.inr ⟨z, i, c, ra.str, rb.int, line_of hz, hc, q _ G H (New.refl s) Rz.str_⟩)
    · cases e
  · cases e
theorem de_ix {o i : Expr} {oo oi : DOn} (h : DO X T W o oo) (hi : DO X T W i oi) (hs : PlainIx i := by exact fun _ _ => rfl) : DE X T W (.Subscript o i pos) (d2 ixD oo oi) :=
  PE.imp (pe_ix ix_seq h hi hs) fun σ H Q q => tOp_of snd_ix σ H Q q

/-! ### o[lo:hi] -/
abbrev DPn := Env → R (Env × Option Int)
def tP (K : PySem.W.Frag) (T : Tab) (W : WX) (d : DPn) : TO := fun σ H Q => ∃ τ ρ G, Ok K T τ ρ σ G H ∧ Out K T W τ ρ σ G H (d ρ) fun _ r _ H' => Q r H'
def DP (X : Cx) (T : Tab) (W : WX) (e : Option Expr) (d : DPn) : Prop := PO X e (tP X.K T W d)
theorem PO.imp {e : Option Expr} {t t' : TO} (h : PO X e t) (i : ∀ σ H Q, t' σ H Q → t σ H Q) : PO X e t' := ⟨fun pins s σ H Q I q => h.run pins s σ H Q I (i _ _ _ q)⟩
def pNo : DPn := fun ρ => .ok (ρ, none)
def pSome (d : DEn) : DPn := fun ρ => (d ρ).bind fun p => match p.2 with
  | .int i => .ok (p.1, some i)
  | _ => .bad
theorem dp_none : DP X T W none pNo := PO.imp po_none fun σ H Q ⟨τ, ρ, G, k, q⟩ => q G H k Fr.refl
theorem dp_some {e : Expr} {d : DEn} (h : DE X T W e d) : DP X T W (some e) (pSome d) := by
  refine PO.imp (po_some h) fun σ H Q q => ?_
  obtain ⟨τ, ρ, G, k, q⟩ := q
  refine ⟨τ, ρ, G, k, (Out.bind q).imp fun ρ1 r G1 H1 k1 fr1 q1 v rv => ?_⟩
  cases r with
  | int i => exact ⟨i, Rb.int (G := G1) (H := H1) (.inl rv), q1 G1 H1 k1 Fr.refl⟩
  | _ => exact q1.elim
def cut {α : Type} (xs : List α) (lo hi : Option Int) : List α := (xs.drop (HT.sIx xs.length 0 lo)).take (HT.sIx xs.length xs.length hi - HT.sIx xs.length 0 lo)
def cutD : D → Option Int → Option Int → Option D
  | .tup ds, lo, hi => some (.tup (cut ds lo hi))
  | .lst ds, lo, hi => some (.lst (cut ds lo hi))
  | .frz ds, lo, hi => some (.lst (cut ds lo hi))
  | _, _, _ => none
def dSl (o : DOn) (lo hi : DPn) : DEn := fun ρ => (o ρ).bind fun p => (lo p.1).bind fun q => (hi q.1).bind fun r => match res r.1 p.2 with
  | some d => (ofO (cutD d q.2 r.2)).bind fun e => .ok (r.1, e)
  | none => .bad
theorem cut_whole {α : Type} {xs : List α} {lo hi : Option Int} (h : HT.sIx xs.length 0 lo = 0 ∧ HT.sIx xs.length xs.length hi = xs.length) : cut xs lo hi = xs := by
  unfold cut
  rw [h.1, h.2]
  simp
theorem RzL.cut {K : PySem.W.Frag} {G : Hp} {xs : List V} {ds : List D} (r : RzL K T G xs ds) (lo hi : Option Int) : RzL K T G (cutV xs lo hi) (Zd.cut ds lo hi) := by
  unfold cutV Zd.cut
  rw [r.len]
  exact (r.drop _).take _
def rSlP (K : PySem.W.Frag) : V → Option Int → Option Int → Hp → VK → Prop := fun x lo hi H Q => ∃ a xs, x = .ref a ∧ SqT K H a xs ∧
  (HT.sIx xs.length 0 lo = 0 ∧ HT.sIx xs.length xs.length hi = xs.length → Q (.ref a) H) ∧ (¬ (HT.sIx xs.length 0 lo = 0 ∧ HT.sIx xs.length xs.length hi = xs.length) → ∀ p (o : Obj), H p = none → o.dict = none → Q (.ref p) (upd H p (.frz o (.tup (cutV xs lo hi)))))
theorem sl_tupP : SlR X (rSlP X.K) := by
  intro pins s σ H x v vl vu lo hi sl Q I rx hs pl pu h
  obtain ⟨a, xs, rfl, hx, q1, q2⟩ := h
  cases rx
  obtain ⟨its, r, ht, hz⟩ := I.tuple hx
  have hlen : its.toArray.size = xs.length := by rw [List.size_toArray]; exact r.length.symm
  by_cases hw : HT.sIx xs.length 0 lo = 0 ∧ HT.sIx xs.length xs.length hi = xs.length
  · refine ⟨"tuple", _, PyProof.Rows.slot_tuple_getitem.lookup, ht.typeIs, ?_⟩
    exact getItem_tuple_whole ht hs pl pu (by rw [hlen]; exact hw) ⟨.ref a, H, I, rfl, q1 hw⟩
  · refine ⟨"tuple", _, PyProof.Rows.slot_tuple_getitem.lookup, ht.typeIs, ?_⟩
    refine HT.getItem_tuple_cut ht hs pl pu (by rw [hlen]; exact hw) ?_ (by rw [hlen]; exact hz)
    rw [hlen]
    exact ep_tup I ((r.drop (HT.sIx xs.length 0 lo)).take (HT.sIx xs.length xs.length hi - HT.sIx xs.length 0 lo)) (Nat.le_trans (cutV_length xs lo hi) hz) (q2 hw)
theorem de_slice {o : Expr} {lo hi : Option Expr} {oo : DOn} {dl dh : DPn} {p2 : Pos} (h : DO X T W o oo) (hl : DP X T W lo dl) (hh : DP X T W hi dh) : DE X T W (.Subscript o (.Slice lo hi none p2) pos) (dSl oo dl dh) := by
  refine PE.imp (pe_slice (sl_tupP.or sl_list) h hl hh) fun σ H Q q => ?_
  obtain ⟨τ, ρ, G, k, q⟩ := q
  refine ⟨τ, ρ, G, k, (Out.bind q).imp fun ρ1 op G1 H1 k1 fr1 q1 v rv fv => ?_⟩
  refine ⟨τ, ρ1, G1, k1, (Out.bind q1).imp fun ρ2 l G2 H2 k2 fr2 q2 => ?_⟩
  refine ⟨τ, ρ2, G2, k2, (Out.bind q2).imp fun ρ3 u G3 H3 k3 fr3 q3 => ?_⟩
  dsimp only at q3
  split at q3
  · rename_i d h1
    have rb := k3.resolve (rv.fr (fr2.trans fr3)) h1
    cases d with
    | tup ds =>
      obtain ⟨a, xs, rfl, e2, e3⟩ := Rb.tup k3.sub rb
      refine .inl ⟨a, xs, rfl, Same.tup k3.sub e2.t, fun hw => ?_, fun hw p o hp ho => ?_⟩
      · rw [e3.len] at hw
        have e : cut ds l u = ds := cut_whole hw
        have q4 : Out X.K T W τ ρ3 σ G3 H3 (R.ok (ρ3, D.tup (cut ds l u))) _ := q3
        rw [e] at q4
        exact q4 G3 H3 k3 Fr.refl _ (Rz.tup_ e2 e3)
      · have n := New.one (o := .frz o (.tup (cutV xs l u))) k3.sub hp
        exact q3 _ _ (k3.new n) n.fr _ (Rz.tup_ (.inl ⟨o, upd_same, ho⟩) ((e3.cut l u).mono n.gro))
    | lst ds =>
      obtain ⟨a, xs, rfl, e2, e3⟩ := Rb.lst k3.sub rb
      refine .inr ⟨a, xs, rfl, SqL.of e2, fun p hp => ?_⟩
      have n := New.one (o := .lst (cutV xs l u)) k3.sub hp
      exact q3 _ _ (k3.new n) n.fr _ (Rz.lst_ upd_same ((e3.cut l u).mono n.gro))
    | frz ds =>
      obtain ⟨a, xs, rfl, e2, e3⟩ := Rb.frz k3.sub rb
      refine .inr ⟨a, xs, rfl, e2, fun p hp => ?_⟩
      have n := New.one (o := .lst (cutV xs l u)) k3.sub hp
      exact q3 _ _ (k3.new n) n.fr _ (Rz.lst_ upd_same ((e3.cut l u).mono n.gro))
    | _ => exact q3.elim
  · exact q3.elim

/-! ### arithmetic -/
def addD : D → D → Option D
  | .int i, .int j => some (.int (i + j))
  | .str s, .str t => if s.length + t.length ≤ 1000000 then some (.str (s ++ t)) else none
  | .tup ds, .tup es => if ds.length + es.length ≤ 1000000 then some (.tup (ds ++ es)) else none
  | .lst ds, .lst es => if ds.length + es.length ≤ 1000000 then some (.lst (ds ++ es)) else none
  | _, _ => none
def rCatP (K : PySem.W.Frag) : R2 := fun x y H Q => ∃ a b xs ys, x = .ref a ∧ y = .ref b ∧ SqT K H a xs ∧ SqT K H b ys ∧ xs.length + ys.length ≤ sizeLine ∧
  (xs = [] → Q (.ref b) H) ∧ (xs ≠ [] → ys = [] → Q (.ref a) H) ∧ (xs ≠ [] → ys ≠ [] → ∀ p (o : Obj), H p = none → o.dict = none → Q (.ref p) (upd H p (.frz o (.tup (xs ++ ys)))))
theorem op_catP : OpR X (binaryOp .Add) (rCatP X.K) := by
  intro pins s σ H x y v u Q I rx ry h
  obtain ⟨a, b, xs, ys, rfl, rfl, ha, hb, hz, q0, q1, q2⟩ := h
  cases rx
  cases ry
  obtain ⟨its, r1, p1, _⟩ := I.tuple ha
  obtain ⟨its2, r2, p2, _⟩ := I.tuple hb
  by_cases hx : xs = []
  · subst hx
    cases r1
    exact cat_tup0 p1 p2 ⟨.ref b, H, I, rfl, q0 rfl⟩
  · refine HT.cat_tup p1 p2 (fun z => hx (r1.nil_iff.mp z)) (fun z => ⟨.ref a, H, I, rfl, q1 hx (r2.nil_iff.mp z)⟩) (fun z => ?_) (by rw [← r1.length, ← r2.length]; exact hz)
    exact ep_tup I (r1.append r2) (by rw [List.length_append]; exact hz) (q2 hx (fun w => z (r2.nil_iff.mpr w)))
def rAddA (K : PySem.W.Frag) : R2 := fun x y H Q => rI0 (fun i j => .int (i + j)) x y H Q ∨ (∃ i j, x = .str i ∧ y = .str j ∧ i.length + j.length ≤ sizeLine ∧ Q (.str (i ++ j)) H) ∨ rCatP K x y H Q ∨ rCat x y H Q
theorem op_addA : OpR X (binaryOp .Add) (rAddA X.K) := op_add.or (op_add_str.or (op_catP.or op_cat))
theorem snd_add {K : PySem.W.Frag} : Snd2 K T (rAddA K) addD := by
  intro x y a b d G H Q s ra rb e q
  unfold addD at e
  split at e
  · cases e
    exact .inl ⟨_, _, ra.int, rb.int, q _ G H (New.refl s) Rz.int_⟩
  · split at e
    · rename_i hz
      cases e
      exact .inr (.inl ⟨_, _, ra.str, rb.str, line_of hz, q _ G H (New.refl s) Rz.str_⟩)
    · cases e
  · split at e
    · rename_i ds es hz
      cases e
      obtain ⟨p, xs, rfl, e2, e3⟩ := Rb.tup s ra
      obtain ⟨r, ys, rfl, f2, f3⟩ := Rb.tup s rb
      refine .inr (.inr (.inl ⟨p, r, xs, ys, rfl, rfl, Same.tup s e2.t, Same.tup s f2.t, line_of (by rw [e3.len, f3.len]; exact hz), fun z => ?_, fun z1 z2 => ?_, fun _ _ p o hp ho => ?_⟩))
      · subst z
        have : ds = [] := by have := e3.len; simpa using this.symm
        subst this
        exact q _ G H (New.refl s) (Rz.tup_ f2 f3)
      · subst z2
        have : es = [] := by have := f3.len; simpa using this.symm
        subst this
        rw [List.append_nil] at q
        exact q _ G H (New.refl s) (Rz.tup_ e2 e3)
      · have n := New.one (o := .frz o (.tup (xs ++ ys))) s hp
        exact q _ _ _ n (Rz.tup_ (.inl ⟨o, upd_same, ho⟩) ((e3.append f3).mono n.gro))
    · cases e
  · split at e
    · rename_i ds es hz
      cases e
      obtain ⟨p, xs, rfl, e2, e3⟩ := Rb.lst s ra
      obtain ⟨r, ys, rfl, f2, f3⟩ := Rb.lst s rb
      refine .inr (.inr (.inr ⟨p, r, xs, ys, rfl, rfl, e2, f2, line_of (by rw [e3.len, f3.len]; exact hz), fun p hp => ?_⟩))
      have n := New.one (o := .lst (xs ++ ys)) s hp
      exact q _ _ _ n (Rz.lst_ upd_same ((e3.append f3).mono n.gro))
    · cases e
  · cases e
theorem de_add {a b : Expr} {oa ob : DOn} (ha : DO X T W a oa) (hb : DO X T W b ob) : DE X T W (.BinOp a .Add b pos) (d2 addD oa ob) := de_op snd_add op_addA ha hb
/-- two ints -/
def iD (c : Int → Int → Bool) (f : Int → Int → D) : D → D → Option D
  | .int i, .int j => if c i j = true then some (f i j) else none
  | _, _ => none
theorem snd_rI {K : PySem.W.Frag} {C : Int → Int → Prop} {c : Int → Int → Bool} {g : Int → Int → V} {f : Int → Int → D} (hc : ∀ i j, c i j = true → C i j) (hz : ∀ i j G, Rz K T G (g i j) (f i j)) : Snd2 K T (rI C g) (iD c f) := by
  intro x y a b d G H Q s ra rb e q
  unfold iD at e
  split at e
  · split at e
    · rename_i h
      cases e
      exact ⟨_, _, ra.int, rb.int, hc _ _ h, q _ G H (New.refl s) (hz _ _ _)⟩
    · cases e
  · cases e
def i0D (f : Int → Int → D) : D → D → Option D
  | .int i, .int j => some (f i j)
  | _, _ => none
theorem snd_rI0 {K : PySem.W.Frag} {g : Int → Int → V} {f : Int → Int → D} (hz : ∀ i j G, Rz K T G (g i j) (f i j)) : Snd2 K T (rI0 g) (i0D f) := by
  intro x y a b d G H Q s ra rb e q
  unfold i0D at e
  split at e
  · cases e
    exact ⟨_, _, ra.int, rb.int, q _ G H (New.refl s) (hz _ _ _)⟩
  · cases e
theorem de_sub {a b : Expr} {oa ob : DOn} (ha : DO X T W a oa) (hb : DO X T W b ob) : DE X T W (.BinOp a .Sub b pos) (d2 (i0D fun i j => .int (i - j)) oa ob) := de_op (snd_rI0 fun _ _ _ => Rz.int_) op_sub ha hb
/-- // : the divisor above 0, of any size below 2 ^ 9000 -/
def fdivD : D → D → Option D := iD (fun _ j => decide (0 < j) && decide (j.natAbs.log2 < 9000)) fun i j => .int (i / j)
theorem de_fdiv {a b : Expr} {oa ob : DOn} (ha : DO X T W a oa) (hb : DO X T W b ob) : DE X T W (.BinOp a .FloorDiv b pos) (d2 fdivD oa ob) :=
  de_op (snd_rI (fun i j h => by simpa [Bool.and_eq_true, CDivW] using h) fun _ _ _ => Rz.int_) op_fdivW ha hb
def modD : D → D → Option D := iD (fun _ j => decide (0 < j)) fun i j => .int (i % j)
theorem de_mod {a b : Expr} {oa ob : DOn} (ha : DO X T W a oa) (hb : DO X T W b ob) : DE X T W (.BinOp a .Mod b pos) (d2 modD oa ob) :=
  de_op (snd_rI (fun i j h => by simpa using h) fun _ _ _ => Rz.int_) op_mod ha hb
def powD : D → D → Option D := iD (fun i j => decide (0 ≤ j) && (decide (j ≤ 1000000) && decide (i.natAbs < 2 ^ 64))) fun i j => .int (i ^ j.toNat)
theorem de_pow {a b : Expr} {oa ob : DOn} (ha : DO X T W a oa) (hb : DO X T W b ob) : DE X T W (.BinOp a .Pow b pos) (d2 powD oa ob) :=
  de_op (snd_rI (fun i j h => by simpa [Bool.and_eq_true, CPow] using h) fun _ _ _ => Rz.int_) op_pow ha hb
def small64 (i : Int) : Bool := decide (-(2 ^ 64) < i) && decide (i < 2 ^ 64)
def mulI : D → D → Option D := iD (fun i j => small64 i || small64 j) fun i j => .int (i * j)
theorem snd_mulI {K : PySem.W.Frag} : Snd2 K T (rI CMul fun i j => .int (i * j)) mulI := snd_rI (fun i j h => by simpa [small64, CMul, Bool.or_eq_true, Bool.and_eq_true] using h) fun _ _ _ => Rz.int_
theorem de_mulI {a b : Expr} {oa ob : DOn} (ha : DO X T W a oa) (hb : DO X T W b ob) : DE X T W (.BinOp a .Mult b pos) (d2 mulI oa ob) := de_op snd_mulI op_mul ha hb
/-- -e -/
def dNeg (o : DOn) : DEn := fun ρ => (o ρ).bind fun p => match res p.1 p.2 with
  | some (.int i) => .ok (p.1, .int (-i))
  | _ => .bad
theorem de_neg {a : Expr} {oa : DOn} (ha : DO X T W a oa) : DE X T W (.UnaryOp .USub a pos) (dNeg oa) := by
  refine PE.imp (pe_un un_neg ha) fun σ H Q q => ?_
  obtain ⟨τ, ρ, G, k, q⟩ := q
  refine ⟨τ, ρ, G, k, (Out.bind q).imp fun ρ1 op G1 H1 k1 fr1 q1 v rv fv => ?_⟩
  dsimp only at q1
  split at q1
  · rename_i i h1
    exact ⟨i, Rb.int (k1.resolve rv h1), q1 G1 H1 k1 Fr.refl _ Rz.int_⟩
  · exact q1.elim

/-! ### comparisons -/
theorem de_lt {a b : Expr} {oa ob : DOn} (ha : DO X T W a oa) (hb : DO X T W b ob) : DE X T W (.Compare a [.Lt] [b] pos) (d2 (i0D fun i j => .bl (decide (i < j))) oa ob) := de_cmp (snd_rI0 fun _ _ _ => Rz.bl_) op_lt ha hb
abbrev ltD : D → D → Option D := i0D fun i j => .bl (decide (i < j))
abbrev leD : D → D → Option D := i0D fun i j => .bl (decide (i ≤ j))
abbrev gtD : D → D → Option D := i0D fun i j => .bl (decide (j < i))
abbrev geD : D → D → Option D := i0D fun i j => .bl (decide (j ≤ i))
theorem s_lt {K : PySem.W.Frag} : Snd2 K T (rI0 fun i j => .bl (decide (i < j))) ltD := snd_rI0 fun _ _ _ => Rz.bl_
theorem s_le {K : PySem.W.Frag} : Snd2 K T (rI0 fun i j => .bl (decide (i ≤ j))) leD := snd_rI0 fun _ _ _ => Rz.bl_
theorem s_gt {K : PySem.W.Frag} : Snd2 K T (rI0 fun i j => .bl (decide (j < i))) gtD := snd_rI0 fun _ _ _ => Rz.bl_
theorem s_ge {K : PySem.W.Frag} : Snd2 K T (rI0 fun i j => .bl (decide (j ≤ i))) geD := snd_rI0 fun _ _ _ => Rz.bl_
/-- is None -/
def isND : D → D → Option D
  | .non, .non => some (.bl true)
  | .ins _ _, .non => some (.bl false)
  | .bl _, .non => some (.bl false)
  | .int _, .non => some (.bl false)
  | .str _, .non => some (.bl false)
  | .tup _, .non => some (.bl false)
  | .lst _, .non => some (.bl false)
  | _, _ => none
def notND (a b : D) : Option D := match isND a b with
  | some (.bl k) => some (.bl (!k))
  | _ => none
theorem isN_v {K : PySem.W.Frag} {G H : Hp} {x : V} {a b d : D} (s : Same G H) (ra : Rb K T G H x a) (e : isND a b = some d) : b = .non ∧ d = .bl (decide (x = .non)) := by
  unfold isND at e
  split at e <;> cases e
  · exact ⟨rfl, by rw [ra.non]; rfl⟩
  · obtain ⟨p, _, _, rfl, _⟩ := Rb.ins s ra; exact ⟨rfl, rfl⟩
  · rw [ra.bl]; exact ⟨rfl, rfl⟩
  · rw [ra.int]; exact ⟨rfl, rfl⟩
  · rw [ra.str]; exact ⟨rfl, rfl⟩
  · obtain ⟨p, _, rfl, _⟩ := Rb.tup s ra; exact ⟨rfl, rfl⟩
  · obtain ⟨p, _, rfl, _⟩ := Rb.lst s ra; exact ⟨rfl, rfl⟩
theorem s_isN {K : PySem.W.Frag} : Snd2 K T (fun x y H Q => y = .non ∧ Q (.bl (decide (x = .non))) H) isND := by
  intro x y a b d G H Q s ra rb e q
  obtain ⟨rfl, rfl⟩ := isN_v s ra e
  exact ⟨rb.non, q _ G H (New.refl s) Rz.bl_⟩
theorem s_notN {K : PySem.W.Frag} : Snd2 K T (fun x y H Q => y = .non ∧ Q (.bl (!decide (x = .non))) H) notND := by
  intro x y a b d G H Q s ra rb e q
  unfold notND at e
  split at e
  · rename_i k h
    obtain ⟨rfl, e2⟩ := isN_v s ra h
    cases e2
    cases e
    exact ⟨rb.non, q _ G H (New.refl s) Rz.bl_⟩
  · cases e
end

/-! ### == and in -/
mutual
def D.py : D → PyData
  | .non => .none
  | .bl b => .bool b
  | .int i => .int i
  | .str s => .str s
  | .tup ds => .tuple (D.pys ds)
  | .lst ds => .list (D.pys ds)
  | .frz ds => .list (D.pys ds)
  | .ins _ _ => .dict []
def D.pys : List D → List PyData
  | [] => []
  | d :: ds => d.py :: D.pys ds
end
mutual
/-- data without instances, its texts of code points -/
def D.flat : D → Bool
  | .str s => PyData.strOk s
  | .tup ds => D.flats ds
  | .lst ds => D.flats ds
  | .frz ds => D.flats ds
  | .ins _ _ => false
  | _ => true
def D.flats : List D → Bool
  | [] => true
  | d :: ds => d.flat && D.flats ds
end
mutual
def D.eqb : D → D → Bool
  | .non, .non => true
  | .bl a, .bl b => a == b
  | .bl a, .int j => (if a then 1 else 0) == j
  | .int i, .bl b => i == (if b then 1 else 0)
  | .int i, .int j => i == j
  | .str x, .str y => x == y
  | .tup xs, .tup ys => D.eqbs xs ys
  | .lst xs, .lst ys => D.eqbs xs ys
  | .lst xs, .frz ys => D.eqbs xs ys
  | .frz xs, .lst ys => D.eqbs xs ys
  | .frz xs, .frz ys => D.eqbs xs ys
  | _, _ => false
def D.eqbs : List D → List D → Bool
  | [], [] => true
  | x :: xs, y :: ys => x.eqb y && D.eqbs xs ys
  | _, _ => false
end
mutual
theorem eqb_py : ∀ a b : D, a.flat = true → b.flat = true → PyData.eqv a.py b.py = a.eqb b
  | .non, b, _, h => by cases b <;> simp_all [D.py, PyData.eqv, D.eqb, D.flat]
  | .bl _, b, _, h => by cases b <;> simp_all [D.py, PyData.eqv, D.eqb, D.flat]
  | .int _, b, _, h => by cases b <;> simp_all [D.py, PyData.eqv, D.eqb, D.flat]
  | .str _, b, _, h => by cases b <;> simp_all [D.py, PyData.eqv, D.eqb, D.flat]
  | .tup ds, b, h1, h => by
    cases b <;> simp_all [D.py, PyData.eqv, D.eqb, D.flat]
    exact eqbs_py _ _ h1 h
  | .lst ds, b, h1, h => by
    cases b <;> simp_all [D.py, PyData.eqv, D.eqb, D.flat]
    all_goals exact eqbs_py _ _ h1 h
  | .frz ds, b, h1, h => by
    cases b <;> simp_all [D.py, PyData.eqv, D.eqb, D.flat]
    all_goals exact eqbs_py _ _ h1 h
  | .ins _ _, b, h1, h => by simp [D.flat] at h1
theorem eqbs_py : ∀ a b : List D, D.flats a = true → D.flats b = true → PyData.eqvAll (D.pys a) (D.pys b) = D.eqbs a b
  | [], [], _, _ => by simp [D.pys, PyData.eqvAll, D.eqbs]
  | [], _ :: _, _, _ => by simp [D.pys, PyData.eqvAll, D.eqbs]
  | _ :: _, [], _, _ => by simp [D.pys, PyData.eqvAll, D.eqbs]
  | a :: as, b :: bs, h1, h2 => by
    simp only [D.flats, Bool.and_eq_true] at h1 h2
    simp only [D.pys, PyData.eqvAll, D.eqbs, eqb_py a b h1.1 h2.1, eqbs_py as bs h1.2 h2.2]
end
mutual
theorem flat_lay : ∀ d : D, d.flat = true → d.py.canLay0 = true
  | .non, _ => by simp [D.py, PyData.canLay0]
  | .bl _, _ => by simp [D.py, PyData.canLay0]
  | .int _, _ => by simp [D.py, PyData.canLay0]
  | .str _, h => by simpa [D.py, PyData.canLay0, D.flat] using h
  | .tup ds, h => by simp only [D.py, PyData.canLay0]; exact flats_lay ds (by simpa [D.flat] using h)
  | .lst ds, h => by simp only [D.py, PyData.canLay0]; exact flats_lay ds (by simpa [D.flat] using h)
  | .frz ds, h => by simp only [D.py, PyData.canLay0]; exact flats_lay ds (by simpa [D.flat] using h)
  | .ins _ _, h => by simp [D.flat] at h
theorem flats_lay : ∀ ds : List D, D.flats ds = true → PyData.canLayAll0 (D.pys ds) = true
  | [], _ => by simp [D.pys, PyData.canLayAll0]
  | d :: ds, h => by
    simp only [D.flats, Bool.and_eq_true] at h
    simp [D.pys, PyData.canLayAll0, flat_lay d h.1, flats_lay ds h.2]
end
mutual
theorem dp_of {K : PySem.W.Frag} {T : Tab} {G H : Hp} (s : Same G H) : ∀ {v : V} (d : D), d.flat = true → Rz K T G v d → Dp K H v d.py
  | _, .non, _, r => by rw [Rz] at r; subst r; exact .non
  | _, .bl _, _, r => by rw [Rz] at r; subst r; exact .bl _
  | _, .int _, _, r => by rw [Rz] at r; subst r; exact .int _
  | _, .str _, _, r => by rw [Rz] at r; subst r; exact .str _
  | _, .tup ds, h, r => by
    rw [Rz] at r
    obtain ⟨a, xs, rfl, e2, e3⟩ := r
    rw [D.py]
    exact .tup (Same.tup s e2.t) (dps_of s ds (by simpa [D.flat] using h) e3)
  | _, .lst ds, h, r => by
    rw [Rz] at r
    obtain ⟨a, xs, rfl, e2, e3⟩ := r
    rw [D.py]
    exact .lst (SqL.of (s _ _ e2)) (dps_of s ds (by simpa [D.flat] using h) e3)
  | _, .frz ds, h, r => by
    rw [Rz] at r
    obtain ⟨a, xs, rfl, e2, e3⟩ := r
    rw [D.py]
    exact .lst (s.seq e2) (dps_of s ds (by simpa [D.flat] using h) e3)
  | _, .ins _ _, h, r => by simp [D.flat] at h
theorem dps_of {K : PySem.W.Frag} {T : Tab} {G H : Hp} (s : Same G H) : ∀ {vs : List V} (ds : List D), D.flats ds = true → RzL K T G vs ds → DpAll K H vs (D.pys ds)
  | vs, [], _, r => by have := r.nil_inv; subst this; rw [D.pys]; exact .nil
  | vs, d :: ds, h, r => by
    obtain ⟨v, vr, rfl, h1, h2⟩ := r.cons_inv
    simp only [D.flats, Bool.and_eq_true] at h
    rw [D.pys]
    exact .cons (dp_of s d h.1 h1) (dps_of s ds h.2 h2)
end
theorem Rb.dp {K : PySem.W.Frag} {T : Tab} {G H : Hp} (s : Same G H) {v : V} {d : D} (hf : d.flat = true) (r : Rb K T G H v d) : Dp K H v d.py := by
  rcases r with r | ⟨a, o, rfl, rfl, r⟩
  · exact dp_of s d hf r
  · cases o with
    | lst ds =>
      obtain ⟨xs, e1, e2⟩ := r
      show Dp K H _ (D.lst ds).py
      rw [D.py]
      exact .lst (SqL.of e1) (dps_of s ds (by simpa [D.flat, OD.toD] using hf) e2)
    | ins c ds => simp [D.flat, OD.toD] at hf
/-- data that the comparison walks: no instance, texts of code points, at most 64 deep -/
def D.fine (d : D) : Bool := d.flat && decide (d.py.depth ≤ 64)
theorem fine_shaped {d : D} (h : d.fine = true) : SeqAt.shaped d.py = true := by
  simp only [D.fine, Bool.and_eq_true] at h
  unfold SeqAt.shaped
  rw [flat_lay d h.1, h.2]
  rfl
def eqD (a b : D) : Option D := if a.fine = true ∧ b.fine = true then some (.bl (a.eqb b)) else none
def neD (a b : D) : Option D := if a.fine = true ∧ b.fine = true then some (.bl (!a.eqb b)) else none
section
variable {X : Cx} {T : Tab} {W : WX} {pos : Pos}
theorem D.fine_flat {d : D} (h : d.fine = true) : d.flat = true := by simp only [D.fine, Bool.and_eq_true] at h; exact h.1
theorem s_eq {K : PySem.W.Frag} : Snd2 K T (rEqD K) eqD := by
  intro x y a b d G H Q s ra rb e q
  unfold eqD at e
  split at e
  · rename_i h
    cases e
    refine ⟨a.py, b.py, ra.dp s (D.fine_flat h.1), rb.dp s (D.fine_flat h.2), fine_shaped h.1, fine_shaped h.2, ?_⟩
    rw [eqb_py a b (D.fine_flat h.1) (D.fine_flat h.2)]
    exact q _ G H (New.refl s) Rz.bl_
  · cases e
theorem s_ne {K : PySem.W.Frag} : Snd2 K T (rNeD K) neD := by
  intro x y a b d G H Q s ra rb e q
  unfold neD at e
  split at e
  · rename_i h
    cases e
    refine ⟨a.py, b.py, ra.dp s (D.fine_flat h.1), rb.dp s (D.fine_flat h.2), fine_shaped h.1, fine_shaped h.2, ?_⟩
    rw [eqb_py a b (D.fine_flat h.1) (D.fine_flat h.2)]
    exact q _ G H (New.refl s) Rz.bl_
  · cases e
/-- x in a list or a tuple of data -/
def inB (x : D) (ds : List D) : Bool := ds.any fun z => z.eqb x
def rInA (K : PySem.W.Frag) (neg : Bool) : R2 := fun x y H Q => ∃ d ds, Dp K H x d ∧ (Dp K H y (.list ds) ∨ Dp K H y (.tuple ds)) ∧ SeqAt.shaped d = true ∧ PyData.canLayAll0 ds = true ∧ Q (.bl (if neg then !ds.any fun z => PyData.eqv z d else ds.any fun z => PyData.eqv z d)) H
theorem op_inA (hu : X.A.units + 65 < cLine) : OpR X (compareOp .In) (rInA X.K false) := by
  intro pins s σ H x y v u Q I rx ry h
  obtain ⟨d, ds, hd, he, sd, se, q⟩ := h
  obtain ⟨as, r1⟩ := Dp.reads I d x v hd rx
  rcases he with he | he
  · obtain ⟨bs, r2⟩ := Dp.reads I (.list ds) y u he ry
    exact SeqAt.in_list_reads r2 r1 se (SeqAt.canLay_of_shaped sd) (room_in_shaped sd hu) ⟨.bl _, H, I, rfl, q⟩
  · obtain ⟨bs, r2⟩ := Dp.reads I (.tuple ds) y u he ry
    exact SeqAt.in_tuple_reads r2 r1 se (SeqAt.canLay_of_shaped sd) (room_in_shaped sd hu) ⟨.bl _, H, I, rfl, q⟩
theorem op_notInA (hu : X.A.units + 65 < cLine) : OpR X (compareOp .NotIn) (rInA X.K true) := by
  intro pins s σ H x y v u Q I rx ry h
  obtain ⟨d, ds, hd, he, sd, se, q⟩ := h
  obtain ⟨as, r1⟩ := Dp.reads I d x v hd rx
  rcases he with he | he
  · obtain ⟨bs, r2⟩ := Dp.reads I (.list ds) y u he ry
    exact SeqAt.notIn_list_reads r2 r1 se (SeqAt.canLay_of_shaped sd) (room_in_shaped sd hu) ⟨.bl _, H, I, rfl, q⟩
  · obtain ⟨bs, r2⟩ := Dp.reads I (.tuple ds) y u he ry
    exact SeqAt.notIn_tuple_reads r2 r1 se (SeqAt.canLay_of_shaped sd) (room_in_shaped sd hu) ⟨.bl _, H, I, rfl, q⟩
theorem any_py {x : D} (hx : x.flat = true) : ∀ {ds : List D}, D.flats ds = true → ((D.pys ds).any fun z => PyData.eqv z x.py) = inB x ds
  | [], _ => rfl
  | d :: ds, h => by
    simp only [D.flats, Bool.and_eq_true] at h
    rw [D.pys, List.any_cons, any_py hx h.2, eqb_py d x h.1 hx]
    rfl
def inD (neg : Bool) (x y : D) : Option D := match seqOf y with
  | some ds => if x.fine = true ∧ D.flats ds = true then some (.bl (if neg then !inB x ds else inB x ds)) else none
  | none => none
theorem s_in {K : PySem.W.Frag} {neg : Bool} : Snd2 K T (rInA K neg) (inD neg) := by
  intro x y a b d G H Q s ra rb e q
  unfold inD at e
  split at e
  · rename_i ds hb
    split at e
    · rename_i h
      cases e
      have hd : Dp K H y (.list (D.pys ds)) ∨ Dp K H y (.tuple (D.pys ds)) := by
        cases b with
        | tup es =>
          cases hb
          have := rb.dp s (d := .tup ds) (by rw [D.flat]; exact h.2)
          rw [D.py] at this
          exact .inr this
        | lst es =>
          cases hb
          have := rb.dp s (d := .lst ds) (by rw [D.flat]; exact h.2)
          rw [D.py] at this
          exact .inl this
        | frz es =>
          cases hb
          have := rb.dp s (d := .frz ds) (by rw [D.flat]; exact h.2)
          rw [D.py] at this
          exact .inl this
        | _ => cases hb
      refine ⟨a.py, D.pys ds, ra.dp s (D.fine_flat h.1), hd, fine_shaped h.1, flats_lay ds h.2, ?_⟩
      rw [any_py (D.fine_flat h.1) h.2]
      exact q _ G H (New.refl s) Rz.bl_
    · cases e
  · cases e
end
end Zd
end
section
/-! Zd 5: statements. -/
namespace Zd
open PySem PySem.Spec PyProof.Rows L2
set_option autoImplicit false

/-- how a block ends -/
inductive Fl where
  | nx | rt (d : D) | bk | ct
abbrev DSn := Env → R (Env × Fl)
section
variable {K : PySem.W.Frag} {T : Tab} {W : WX} {τ : Nat → Addr} {ρ ρ' : Env} {σ σ' : L2.St} {G G' H H' : Hp} {α β : Type}
theorem Out.bind0 {r : R (Env × α)} {f : Env × α → R (Env × β)} {Kk : Env → β → Hp → Hp → Prop} (h : Out K T W τ ρ σ G H (r.bind f) Kk) :
    Out K T W τ ρ σ G H r fun ρ1 a G1 H1 => Out K T W τ ρ σ G H (f (ρ1, a)) Kk := by
  cases r with
  | ok p => exact fun G1 H1 k fr => h
  | ex ρ2 x => exact h
  | bad => exact h
/-- a new object, frozen: seen from a start where it was not there -/
theorem Fr.freeze {ρ0 : Env} {σ0 : L2.St} {G0 H0 : Hp} (f : Fr ρ0 σ0 G0 H0 ρ σ G H) {a : Addr} {u : HO} (h : H0 a = none) (g : G a = none) : Fr ρ0 σ0 G0 H0 ρ σ (upd G a u) H :=
  ⟨f.gro.trans (Same.upd g), fun b o hb no => by
    obtain ⟨h1, h2, h3⟩ := f.keep b o hb no
    exact ⟨h1, by rw [upd_ne (ne_of_none hb h)]; exact h2, h3⟩, f.stay⟩
theorem Ok.freezeFr (k : Ok K T τ ρ σ G H) {v : V} {o : OD} (r : RpOp K T ρ σ G H v (.fr o)) : ∃ a u, v = .ref a ∧ G a = none ∧ Rz K T (upd G a u) v o.toD ∧ Ok K T τ ρ σ (upd G a u) H := by
  obtain ⟨a, rfl, g, ro, no⟩ := r
  obtain ⟨u, hu⟩ := ro.there
  have sg : Same G (upd G a u) := Same.upd g
  have sh : Same (upd G a u) H := fun b x q => by
    by_cases hb : b = a
    · subst hb; rw [upd_same] at q; rw [hu]; exact q
    · rw [upd_ne hb] at q; exact k.sub _ _ q
  refine ⟨a, u, rfl, g, ?_, ⟨sh, k.len, fun j d q => ?_, fun j t o' q => ?_, k.dis⟩⟩
  · cases o with
    | lst ds =>
      obtain ⟨xs, q1, q2⟩ := ro
      rw [hu] at q1; cases q1
      exact Rz.lst_ upd_same (q2.mono sg)
    | ins c ds =>
      obtain ⟨dx, fs, q1, q2, q3⟩ := ro
      rw [hu] at q1; cases q1
      show Rz K T _ _ (.ins c ds)
      rw [Rz]
      exact ⟨a, dx, fs, rfl, upd_same, q2, q3.mono sg⟩
  · obtain ⟨w, q1, q2⟩ := k.val j d q
    exact ⟨w, q1, q2.mono sg⟩
  · obtain ⟨b, q1, q2, q3, q4⟩ := k.own j t o' q
    have hb : b ≠ a := fun z => by subst z; exact no ⟨j, t, o', q, q1⟩
    exact ⟨b, q1, by rw [upd_ne hb]; exact q2, q3.mono sg fun u h => h, q4⟩

/-- a slot is stored -/
def toB : Op → Option B
  | .v d => some (.val d)
  | .fr o => some (.own 0 o)
  | .pl _ => none
theorem own_set {i : Nat} {b : B} {v : V} {a : Addr} (h : OwnAt (ρ.set i (some b)) (σ.set i (some v)) a) : OwnAt ρ σ a ∨ ∃ t o, b = .own t o ∧ v = .ref a := by
  obtain ⟨j, t, o, q1, q2⟩ := h
  by_cases hj : i = j
  · subst hj
    by_cases hi : i < ρ.length
    · rw [List.getElem?_set_self hi] at q1
      have e1 : b = .own t o := by injection q1 with q1; injection q1
      by_cases hi2 : i < σ.length
      · rw [List.getElem?_set_self hi2] at q2
        exact .inr ⟨t, o, e1, by injection q2 with q2; injection q2⟩
      · rw [List.getElem?_eq_none (by simpa using hi2)] at q2; cases q2
    · rw [List.getElem?_eq_none (by simpa using hi)] at q1; cases q1
  · rw [List.getElem?_set_ne hj] at q1 q2
    exact .inl ⟨j, t, o, q1, q2⟩
theorem Ok.setOp (k : Ok K T τ ρ σ G H) {i : Nat} {v : V} {op : Op} {b : B} (r : RpOp K T ρ σ G H v op) (e : toB op = some b) : Ok K T τ (ρ.set i (some b)) (σ.set i (some v)) G H where
  sub := k.sub
  len := by rw [List.length_set, List.length_set]; exact k.len
  val := fun j d q => by
    by_cases hj : i = j
    · subst hj
      by_cases hi : i < ρ.length
      · rw [List.getElem?_set_self hi] at q
        rw [List.getElem?_set_self (by rw [← k.len]; exact hi)]
        refine ⟨v, rfl, ?_⟩
        cases op <;> cases e <;> cases q
        exact r
      · rw [List.getElem?_eq_none (by simpa using hi)] at q; cases q
    · rw [List.getElem?_set_ne hj] at q ⊢
      exact k.val j d q
  own := fun j t o q => by
    by_cases hj : i = j
    · subst hj
      by_cases hi : i < ρ.length
      · rw [List.getElem?_set_self hi] at q
        rw [List.getElem?_set_self (by rw [← k.len]; exact hi)]
        cases op <;> cases e <;> cases q
        obtain ⟨a, rfl, g, ro, no⟩ := r
        exact ⟨a, rfl, g, ro, fun z => absurd rfl z⟩
      · rw [List.getElem?_eq_none (by simpa using hi)] at q; cases q
    · rw [List.getElem?_set_ne hj] at q ⊢
      exact k.own j t o q
  dis := fun j l t u o p a q1 q2 q3 q4 => by
    have go : ∀ m, i ≠ m → ∀ t o, (ρ.set i (some b))[m]? = some (some (B.own t o)) → (σ.set i (some v))[m]? = some (some (V.ref a)) → ρ[m]? = some (some (B.own t o)) ∧ σ[m]? = some (some (V.ref a)) := fun m hm t o z1 z2 => by
      rw [List.getElem?_set_ne hm] at z1 z2
      exact ⟨z1, z2⟩
    have at_ : ∀ t o, (ρ.set i (some b))[i]? = some (some (B.own t o)) → (σ.set i (some v))[i]? = some (some (V.ref a)) → ¬ OwnAt ρ σ a := fun t o z1 z2 => by
      have hi : i < ρ.length := by
        have := (List.getElem?_eq_some_iff.mp z1).1
        simpa using this
      rw [List.getElem?_set_self hi] at z1
      rw [List.getElem?_set_self (by rw [← k.len]; exact hi)] at z2
      cases z2
      cases op <;> cases e <;> cases z1
      obtain ⟨a', e2, g, ro, no⟩ := r
      cases e2
      exact no
    by_cases hj : i = j
    · by_cases hl : i = l
      · rw [← hj, ← hl]
      · subst hj
        obtain ⟨z1, z2⟩ := go l hl u p q2 q4
        exact absurd ⟨l, u, p, z1, z2⟩ (at_ t o q1 q3)
    · by_cases hl : i = l
      · subst hl
        obtain ⟨z1, z2⟩ := go j hj t o q1 q3
        exact absurd ⟨j, t, o, z1, z2⟩ (at_ u p q2 q4)
      · obtain ⟨z1, z2⟩ := go j hj t o q1 q3
        obtain ⟨z3, z4⟩ := go l hl u p q2 q4
        exact k.dis j l t u o p a z1 z3 z2 z4
theorem Fr.setOp {ρ0 : Env} {σ0 : L2.St} {G0 H0 : Hp} (f : Fr ρ0 σ0 G0 H0 ρ σ G H) {i : Nat} {v : V} {op : Op} {b : B} (fv : FreshV H0 v op) (e : toB op = some b) : Fr ρ0 σ0 G0 H0 (ρ.set i (some b)) (σ.set i (some v)) G H :=
  ⟨f.gro, fun c o hc no => by
    obtain ⟨h1, h2, h3⟩ := f.keep c o hc no
    refine ⟨h1, h2, fun z => ?_⟩
    rcases own_set z with z | ⟨t, o', e1, e2⟩
    · exact h3 z
    · cases op <;> cases e <;> cases e1
      obtain ⟨a, e3, e4⟩ := fv _ rfl
      rw [e2] at e3
      injection e3 with e3
      rw [e3, e4] at hc
      exact absurd hc (by simp), f.stay⟩
/-- an owned object is changed -/
theorem Ok.updOwn (k : Ok K T τ ρ σ G H) {i t : Nat} {o o' : OD} {a : Addr} {u : HO} (e : ρ[i]? = some (some (B.own t o))) (q : σ[i]? = some (some (V.ref a))) (g : G a = none) (ht : t ≠ 0 → τ t = a) (r : RO K T G (upd H a u) a o') :
    Ok K T τ (ρ.set i (some (B.own t o'))) σ G (upd H a u) ∧ Fr ρ σ G H (ρ.set i (some (B.own t o'))) σ G (upd H a u) := by
  have hi : i < ρ.length := (List.getElem?_eq_some_iff.mp e).1
  have back : ∀ (j t1 : Nat) (o1 : OD), (ρ.set i (some (B.own t o')))[j]? = some (some (B.own t1 o1)) → ∃ t2 o2, ρ[j]? = some (some (B.own t2 o2)) := fun j t1 o1 z => by
    by_cases hj : i = j
    · subst hj; exact ⟨t, o, e⟩
    · rw [List.getElem?_set_ne hj] at z; exact ⟨t1, o1, z⟩
  refine ⟨⟨fun b x hb => ?_, by rw [List.length_set]; exact k.len, fun j d z => ?_, fun j t1 o1 z => ?_, fun j l t1 t2 o1 o2 b q1 q2 q3 q4 => ?_⟩, ⟨Same.refl _, fun b x hb no => ?_, fun b x hb => ?_⟩⟩
  · have : b ≠ a := fun z => by subst z; rw [g] at hb; cases hb
    rw [upd_ne this]; exact k.sub _ _ hb
  · have hj : i ≠ j := fun w => by subst w; rw [List.getElem?_set_self hi] at z; cases z
    rw [List.getElem?_set_ne hj] at z
    exact k.val j d z
  · by_cases hj : i = j
    · subst hj
      rw [List.getElem?_set_self hi] at z
      cases z
      exact ⟨a, q, g, r, ht⟩
    · rw [List.getElem?_set_ne hj] at z
      obtain ⟨b, z1, z2, z3, z4⟩ := k.own j t1 o1 z
      have hb : b ≠ a := fun w => by subst w; exact hj (k.dis i j _ _ _ _ b e z q z1)
      exact ⟨b, z1, z2, z3.mono (Same.refl _) fun w hw => by rw [upd_ne hb]; exact hw, z4⟩
  · obtain ⟨t3, o3, w1⟩ := back j t1 o1 q1
    obtain ⟨t4, o4, w2⟩ := back l t2 o2 q2
    exact k.dis j l _ _ _ _ b w1 w2 q3 q4
  · have hb' : b ≠ a := fun z => by subst z; exact no ⟨i, t, o, e, q⟩
    refine ⟨by rw [upd_ne hb']; exact hb, rfl, fun ⟨j, t1, o1, w1, w2⟩ => ?_⟩
    obtain ⟨t2, o2, w3⟩ := back j t1 o1 w1
    exact no ⟨j, t2, o2, w3, w2⟩
  · by_cases z : b = a
    · subst z; exact ⟨u, upd_same⟩
    · exact ⟨x, by rw [upd_ne z]; exact hb⟩

def OutS (K : PySem.W.Frag) (T : Tab) (W : WX) (τ : Nat → Addr) (ρ : Env) (σ : L2.St) (G H : Hp) (r : R (Env × Fl)) (Dn : Ends) : Prop := match r with
  | .ok (ρ', .nx) => ∀ σ' G' H', Ok K T τ ρ' σ' G' H' → Fr ρ σ G H ρ' σ' G' H' → Dn.nx σ' H'
  | .ok (ρ', .bk) => ∀ σ' G' H', Ok K T τ ρ' σ' G' H' → Fr ρ σ G H ρ' σ' G' H' → Dn.bk σ' H'
  | .ok (ρ', .ct) => ∀ σ' G' H', Ok K T τ ρ' σ' G' H' → Fr ρ σ G H ρ' σ' G' H' → Dn.ct σ' H'
  | .ok (ρ', .rt d) => ∀ v σ' G' H', Ok K T τ ρ' σ' G' H' → Fr ρ σ G H ρ' σ' G' H' → Rz K T G' v d → Dn.rt v H'
  | .ex ρ' x => ∀ cls dx σ' G' H', Ok K T τ ρ' σ' G' H' → Fr ρ σ G H ρ' σ' G' H' → XOk K T G' H' cls dx x → W cls dx σ' H'
  | .bad => False
theorem OutS.shift {r : R (Env × Fl)} {Dn : Ends} (fr : Fr ρ σ G H ρ' σ' G' H') (h : OutS K T W τ ρ σ G H r Dn) : OutS K T W τ ρ' σ' G' H' r Dn := by
  cases r with
  | ok p =>
    obtain ⟨ρ1, f⟩ := p
    cases f with
    | nx => exact fun s2 G2 H2 k f2 => h s2 G2 H2 k (fr.trans f2)
    | bk => exact fun s2 G2 H2 k f2 => h s2 G2 H2 k (fr.trans f2)
    | ct => exact fun s2 G2 H2 k f2 => h s2 G2 H2 k (fr.trans f2)
    | rt d => exact fun v s2 G2 H2 k f2 => h v s2 G2 H2 k (fr.trans f2)
  | ex ρ2 x => exact fun cls dx s2 G2 H2 k f2 => h cls dx s2 G2 H2 k (fr.trans f2)
  | bad => exact h
/-- an expression ahead of a block -/
theorem OutS.bindE {r : R (Env × α)} {f : Env × α → R (Env × Fl)} {Dn : Ends} (h : OutS K T W τ ρ σ G H (r.bind f) Dn) : Out K T W τ ρ σ G H r fun ρ1 a _ _ => OutS K T W τ ρ σ G H (f (ρ1, a)) Dn := by
  cases r with
  | ok p => exact fun G1 H1 k fr => h
  | ex ρ2 x => exact fun cls dx G' H' k fr xo => h cls dx σ G' H' k fr xo
  | bad => exact h
end
section
variable (K : PySem.W.Frag) (T : Tab) (W : WX)
def tS (d : DSn) : TS := fun Dn σ H => ∃ τ ρ G, Ok K T τ ρ σ G H ∧ OutS K T W τ ρ σ G H (d ρ) Dn
end
def DS (X : Cx) (T : Tab) (W : WX) (st : Stmt) (d : DSn) : Prop := PS X st (tS X.K T W d)
def DSs (X : Cx) (T : Tab) (W : WX) (sts : List Stmt) (d : DSn) : Prop := PSs X sts (tS X.K T W d)
theorem PS.imp {X : Cx} {st : Stmt} {t t' : TS} (h : PS X st t) (i : ∀ D σ H, t' D σ H → t D σ H) : PS X st t' := ⟨fun pins s σ H D I q => h.run pins s σ H D I (i _ _ _ q)⟩
theorem PSs.imp {X : Cx} {st : List Stmt} {t t' : TS} (h : PSs X st t) (i : ∀ D σ H, t' D σ H → t D σ H) : PSs X st t' := ⟨fun pins s σ H D I q => h.run pins s σ H D I (i _ _ _ q)⟩
/-- code that is not walked -/
def dNever : DSn := fun _ => .bad
section
variable {X : Cx} {T : Tab} {W : WX} {pos : Pos}
theorem ds_never {st : Stmt} : DS X T W st dNever := PS.imp ps_never fun D σ H ⟨τ, ρ, G, k, q⟩ => q
theorem dss_never {st : List Stmt} : DSs X T W st dNever := PSs.imp pss_never fun D σ H ⟨τ, ρ, G, k, q⟩ => q
def dEnd (f : Fl) : DSn := fun ρ => .ok (ρ, f)
theorem dss_nil : DSs X T W [] (dEnd .nx) := PSs.imp pss_nil fun D σ H ⟨τ, ρ, G, k, q⟩ => q σ G H k Fr.refl
theorem ds_pass : DS X T W (.Pass pos) (dEnd .nx) := PS.imp ps_pass fun D σ H ⟨τ, ρ, G, k, q⟩ => q σ G H k Fr.refl
theorem ds_break : DS X T W (.Break pos) (dEnd .bk) := PS.imp ps_break fun D σ H ⟨τ, ρ, G, k, q⟩ => q σ G H k Fr.refl
theorem ds_continue : DS X T W (.Continue pos) (dEnd .ct) := PS.imp ps_continue fun D σ H ⟨τ, ρ, G, k, q⟩ => q σ G H k Fr.refl
def dSeq (a b : DSn) : DSn := fun ρ => (a ρ).bind fun p => match p.2 with
  | .nx => b p.1
  | f => .ok (p.1, f)
theorem tS_seq {K : PySem.W.Frag} {a b : DSn} (D : Ends) (σ : L2.St) (H : Hp) (q : tS K T W (dSeq a b) D σ H) : tSeq (tS K T W a) (tS K T W b) D σ H := by
  obtain ⟨τ, ρ, G, k, q⟩ := q
  refine ⟨τ, ρ, G, k, ?_⟩
  unfold dSeq at q
  cases e : a ρ with
  | ok p =>
    rw [e] at q
    obtain ⟨ρ1, f⟩ := p
    cases f with
    | nx => exact fun σ' G' H' k' fr => ⟨τ, ρ1, G', k', OutS.shift fr q⟩
    | bk => exact q
    | ct => exact q
    | rt d => exact q
  | ex ρ2 x => rw [e] at q; exact q
  | bad => rw [e] at q; exact q
theorem dss_cons {st : Stmt} {rest : List Stmt} {a b : DSn} (h1 : DS X T W st a) (h2 : DSs X T W rest b) : DSs X T W (st :: rest) (dSeq a b) := PSs.imp (pss_cons h1 h2) tS_seq
theorem dss_one {st : Stmt} {a : DSn} (h1 : DS X T W st a) : DSs X T W [st] a := pss_one h1
/-! ### return, if, a dropped value -/
def dRet (d : DEn) : DSn := fun ρ => (d ρ).bind fun p => .ok (p.1, .rt p.2)
theorem ds_ret {e : Expr} {d : DEn} (h : DE X T W e d) : DS X T W (.Return (some e) pos) (dRet d) := by
  refine PS.imp (ps_ret h) fun D σ H q => ?_
  obtain ⟨τ, ρ, G, k, q⟩ := q
  exact ⟨τ, ρ, G, k, (OutS.bindE q).imp fun ρ1 r G1 H1 k1 fr1 q1 v rv => q1 v σ G1 H1 k1 fr1 rv⟩
theorem ds_retN : DS X T W (.Return none pos) (dEnd (.rt .non)) := PS.imp ps_retN fun D σ H ⟨τ, ρ, G, k, q⟩ => q .non σ G H k Fr.refl Rz.non_
def dDrop (d : DOn) : DSn := fun ρ => (d ρ).bind fun p => .ok (p.1, .nx)
theorem ds_expr {e : Expr} {d : DOn} (h : DO X T W e d) (hs : swapsWith e none pos.line X.env = pure false := by rfl) : DS X T W (.Expr e pos) (dDrop d) := by
  refine PS.imp (ps_expr h hs) fun D σ H q => ?_
  obtain ⟨τ, ρ, G, k, q⟩ := q
  exact ⟨τ, ρ, G, k, (OutS.bindE q).imp fun ρ1 r G1 H1 k1 fr1 q1 v rv fv => q1 σ G1 H1 k1 fr1⟩
theorem ds_doc {x j pos'} : DS X T W (.Expr (.Constant (.str x) j pos) pos') (dEnd .nx) := PS.imp ps_doc fun D σ H ⟨τ, ρ, G, k, q⟩ => q σ G H k Fr.refl
def dIte (t : DTn) (a b : DSn) : DSn := fun ρ => (t ρ).bind fun p => if p.2 = true then a p.1 else b p.1
theorem ds_if {c : Expr} {x y : List Stmt} {t : DTn} {a b : DSn} (hc : DT X T W c t) (ha : DSs X T W x a) (hb : DSs X T W y b) : DS X T W (.If c x y pos) (dIte t a b) := by
  refine PS.imp (ps_if hc ha hb) fun D σ H q => ?_
  obtain ⟨τ, ρ, G, k, q⟩ := q
  refine ⟨τ, ρ, G, k, (OutS.bindE q).imp fun ρ1 r G1 H1 k1 fr1 q1 => ?_⟩
  cases r with
  | true => rw [if_pos rfl] at q1 ⊢; exact ⟨τ, ρ1, G1, k1, OutS.shift fr1 q1⟩
  | false => rw [if_neg Bool.false_ne_true] at q1 ⊢; exact ⟨τ, ρ1, G1, k1, OutS.shift fr1 q1⟩

/-! ### a new list as an operand; an operand frozen -/
def oLst (a : DAn) : DOn := fun ρ => (a ρ).bind fun p => match vals p.2 with
  | some ds => sz ds.length (.ok (p.1, .fr (.lst ds)))
  | none => .bad
theorem own_there {K : PySem.W.Frag} {τ : Nat → Addr} {ρ : Env} {σ : L2.St} {G H : Hp} (k : Ok K T τ ρ σ G H) {a : Addr} (h : OwnAt ρ σ a) : ∃ u, H a = some u := by
  obtain ⟨i, t, o, e, q⟩ := h
  obtain ⟨b, q1, g, r, _⟩ := k.own i t o e
  rw [q] at q1; cases q1
  exact r.there
/-- an object just made, loose -/
theorem loose_op {K : PySem.W.Frag} {τ : Nat → Addr} {ρ : Env} {σ : L2.St} {G H : Hp} (k : Ok K T τ ρ σ G H) {p : Addr} {xs : List V} {ds : List D} (hp : H p = none) (r : RzL K T G xs ds) : RpOp K T ρ σ G (upd H p (.lst xs)) (.ref p) (.fr (.lst ds)) :=
  ⟨p, rfl, k.sub.free hp, ⟨xs, upd_same, r⟩, fun z => by
    obtain ⟨u, hu⟩ := own_there k z
    rw [hp] at hu; cases hu⟩
theorem do_lst {es : List Expr} {a : DAn} (h : DA X T W es a) : DO X T W (.List es pos) (oLst a) := by
  refine PE.imp (pe_lst h) fun σ H Q q => ?_
  obtain ⟨τ, ρ, G, k, q⟩ := q
  refine ⟨τ, ρ, G, k, (Out.bind0 q).imp fun ρ1 ops G1 H1 k1 fr1 q1 vs rvs fvs => ?_⟩
  dsimp only at q1
  split at q1
  · rename_i ds h1
    have rz := rz_vals rvs h1
    by_cases hz : ds.length ≤ 1000000
    · rw [sz_ok hz] at q1
      refine ⟨line_of (by rw [rz.len]; exact hz), fun p hp => ?_⟩
      have n := New.loose (o := .lst vs) k1.sub hp
      exact q1 _ _ (k1.new n) (fr1.trans n.fr) _ (loose_op k1 hp rz) fun od _ => ⟨p, rfl, fr1.free hp⟩
    · unfold sz at q1; rw [if_neg hz] at q1; exact q1.elim
  · exact q1.elim
def dFz (o : DOn) : DEn := fun ρ => (o ρ).bind fun p => match p.2 with
  | .v d => .ok (p.1, d)
  | .fr od => .ok (p.1, od.toD)
  | .pl i => dName i p.1
theorem de_o {e : Expr} {o : DOn} (h : DO X T W e o) : DE X T W e (dFz o) := by
  refine PE.imp h fun σ H Q q => ?_
  obtain ⟨τ, ρ, G, k, q⟩ := q
  refine ⟨τ, ρ, G, k, (Out.bind0 q).imp fun ρ1 op G1 H1 k1 fr1 q1 v rv fv => ?_⟩
  cases op with
  | v d => exact q1 G1 H1 k1 fr1 v rv
  | fr od =>
    obtain ⟨a, u, e1, g, rz, k2⟩ := k1.freezeFr rv
    obtain ⟨b, e2, e3⟩ := fv od rfl
    have : a = b := by rw [e1] at e2; injection e2
    subst this
    exact q1 _ _ k2 (fr1.freeze e3 g) v rz
  | pl i =>
    have q2 : Out X.K T W τ ρ σ G H (dName i ρ1) _ := q1
    unfold dName at q2
    split at q2
    · rename_i d e
      obtain ⟨w, q3, r⟩ := k1.val i d e
      have e2 : v = w := by
        have rv' : σ[i]? = some (some v) := rv
        rw [rv'] at q3; cases q3; rfl
      subst e2
      exact q2 G1 H1 k1 fr1 v r
    · rename_i t o e
      obtain ⟨a, G', q3, r, k', fr⟩ := k1.freeze e
      have e2 : v = .ref a := by
        have rv' : σ[i]? = some (some v) := rv
        rw [rv'] at q3; cases q3; rfl
      subst e2
      exact q2 G' H1 k' (fr1.trans fr) _ r
    · exact q2.elim

/-! ### x = e -/
def dSet (i : Nat) (o : DOn) : DSn := fun ρ => (o ρ).bind fun p => match toB p.2 with
  | some b => .ok (p.1.set i (some b), .nx)
  | none => .bad
theorem tSet_of {K : PySem.W.Frag} {i : Nat} {o : DOn} (D : Ends) (σ : L2.St) (H : Hp) (q : tS K T W (dSet i o) D σ H) : tAsg (tO K T W o) (gName i) D σ H := by
  obtain ⟨τ, ρ, G, k, q⟩ := q
  refine ⟨τ, ρ, G, k, (OutS.bindE q).imp fun ρ1 op G1 H1 k1 fr1 q1 v rv fv => ?_⟩
  dsimp only at q1
  split at q1
  · rename_i b h1
    exact q1 _ G1 H1 (k1.setOp rv h1) (fr1.setOp fv h1)
  · exact q1.elim
theorem ds_set {i : Nat} {x : Str} {e : Expr} {o : DOn} {pos' : Pos} (hN : X.N.Nodup) (h : DO X T W e o) (hi : X.N[i]? = some x := by rfl) (hx : Loc X.env.scope x := by first | exact .inl rfl | exact .inr rfl) (hs : swapsWith e (some (.Name x pos')) pos.line X.env = pure false := by rfl)
    (hf : X.fn x = true ∨ X.env.scope.names.lookup x = some .local := by first | exact .inl rfl | exact .inr rfl) : DS X T W (.Assign [.Name x pos'] e pos) (dSet i o) :=
  PS.imp (ps_set hN hi hx h hs hf) tSet_of
/-! ### targets -/
/-- the slots but for some are as they were -/
structure Off (is : List Nat) (σ σ' : L2.St) : Prop where
  len : σ'.length = σ.length
  get : ∀ j, j ∉ is → σ'[j]? = σ[j]?
theorem Off.refl {is : List Nat} {σ : L2.St} : Off is σ σ := ⟨rfl, fun _ _ => rfl⟩
theorem Off.trans {is js : List Nat} {σ σ1 σ2 : L2.St} (a : Off is σ σ1) (b : Off js σ1 σ2) : Off (is ++ js) σ σ2 :=
  ⟨b.len.trans a.len, fun j h => by
    rw [List.mem_append, not_or] at h
    rw [b.get j h.2, a.get j h.1]⟩
def tG (K : PySem.W.Frag) (T : Tab) (W : WX) (is : List Nat) (g : D → Env → Option Env) : TG := fun v σ H Q => ∃ τ ρ G d, Ok K T τ ρ σ G H ∧ Rz K T G v d ∧ ∃ ρ', g d ρ = some ρ' ∧ ∀ σ', Ok K T τ ρ' σ' G H → Fr ρ σ G H ρ' σ' G H → Off is σ σ' → Q σ' H
def DG (X : Cx) (T : Tab) (W : WX) (tg : Expr) (is : List Nat) (g : D → Env → Option Env) : Prop := PG X tg (tG X.K T W is g)
theorem PG.imp {X : Cx} {tg : Expr} {t t' : TG} (h : PG X tg t) (i : ∀ v σ H Q, t' v σ H Q → t v σ H Q) : PG X tg t' := ⟨fun pins s σ H v u Q I r q => h.run pins s σ H v u Q I r (i _ _ _ _ q)⟩
theorem PGs.imp {X : Cx} {tg : List Expr} {t t' : TGs} (h : PGs X tg t) (i : ∀ v σ H Q, t' v σ H Q → t v σ H Q) : PGs X tg t' := ⟨fun pins s σ H v u Q I r q => h.run pins s σ H v u Q I r (i _ _ _ _ q)⟩
def gNm (i : Nat) : D → Env → Option Env := fun d ρ => some (ρ.set i (some (.val d)))
theorem dg_name {i : Nat} {x : Str} (hN : X.N.Nodup) (hi : X.N[i]? = some x := by rfl) (hx : Loc X.env.scope x := by first | exact .inl rfl | exact .inr rfl) (hf : X.fn x = true ∨ X.env.scope.names.lookup x = some .local := by first | exact .inl rfl | exact .inr rfl) : DG X T W (.Name x pos) [i] (gNm i) := by
  refine PG.imp (pg_name hN hi hx hf) fun v σ H Q q => ?_
  obtain ⟨τ, ρ, G, d, k, rz, ρ', e, q⟩ := q
  cases e
  exact q _ (k.setOp (op := .v d) rz rfl) (Fr.refl.setOp (op := .v d) (fun _ z => nomatch z) rfl) ⟨List.length_set, fun j hj => List.getElem?_set_ne (fun z => hj (by rw [z]; exact List.mem_singleton.mpr rfl))⟩
def gsNil : List D → Env → Option Env
  | [], ρ => some ρ
  | _ :: _, _ => none
def gsCons (g : D → Env → Option Env) (gs : List D → Env → Option Env) : List D → Env → Option Env
  | d :: ds, ρ => (g d ρ).bind fun ρ1 => gs ds ρ1
  | [], _ => none
def tGs (K : PySem.W.Frag) (T : Tab) (W : WX) (is : List Nat) (g : List D → Env → Option Env) : TGs := fun vs σ H Q => ∃ τ ρ G ds, Ok K T τ ρ σ G H ∧ RzL K T G vs ds ∧ ∃ ρ', g ds ρ = some ρ' ∧ ∀ σ', Ok K T τ ρ' σ' G H → Fr ρ σ G H ρ' σ' G H → Off is σ σ' → Q σ' H
def DGs (X : Cx) (T : Tab) (W : WX) (tg : List Expr) (is : List Nat) (g : List D → Env → Option Env) : Prop := PGs X tg (tGs X.K T W is g)
theorem dgs_nil : DGs X T W [] [] gsNil := by
  refine PGs.imp pgs_nil fun vs σ H Q q => ?_
  obtain ⟨τ, ρ, G, ds, k, rz, ρ', e, q⟩ := q
  cases ds with
  | nil => cases e; exact ⟨rz.nil_inv, q σ k Fr.refl Off.refl⟩
  | cons d ds => cases e
theorem dgs_cons {e : Expr} {es : List Expr} {is js : List Nat} {g : D → Env → Option Env} {gs : List D → Env → Option Env} (h : DG X T W e is g) (r : DGs X T W es js gs)
    (hs : (assignEach (e :: es) X.env).map (·.2) = assign e X.env :: (assignEach es X.env).map (·.2) := by rfl) : DGs X T W (e :: es) (is ++ js) (gsCons g gs) := by
  refine PGs.imp (pgs_cons h r hs) fun vs σ H Q q => ?_
  obtain ⟨τ, ρ, G, ds, k, rz, ρ', e, q⟩ := q
  cases ds with
  | nil => cases e
  | cons d ds =>
    obtain ⟨v, vr, rfl, h1, h2⟩ := rz.cons_inv
    dsimp only [gsCons] at e
    cases e1 : g d ρ with
    | some ρ1 =>
      rw [e1] at e
      exact ⟨v, vr, rfl, τ, ρ, G, d, k, h1, ρ1, e1, fun σ1 k1 f1 o1 => ⟨τ, ρ1, G, ds, k1, h2, ρ', e, fun σ2 k2 f2 o2 => q σ2 k2 (f1.trans f2) (o1.trans o2)⟩⟩
    | none => rw [e1] at e; cases e
def gTp (gs : List D → Env → Option Env) : D → Env → Option Env
  | .tup ds, ρ => gs ds ρ
  | _, _ => none
theorem gs_len {g : List D → Env → Option Env} {n : Nat} (hl : ∀ ds ρ ρ', g ds ρ = some ρ' → ds.length = n) {ds : List D} {ρ ρ' : Env} (e : g ds ρ = some ρ') : ds.length = n := hl _ _ _ e
/-- how many a row of targets takes -/
def Takes_ (g : List D → Env → Option Env) (n : Nat) : Prop := ∀ ds ρ ρ', g ds ρ = some ρ' → ds.length = n
theorem takes_nil : Takes_ gsNil 0 := fun ds ρ ρ' e => by cases ds <;> first | rfl | cases e
theorem takes_cons {g : D → Env → Option Env} {gs : List D → Env → Option Env} {n : Nat} (h : Takes_ gs n) : Takes_ (gsCons g gs) (n + 1) := fun ds ρ ρ' e => by
  cases ds with
  | nil => cases e
  | cons d ds =>
    dsimp only [gsCons] at e
    cases e1 : g d ρ with
    | some ρ1 => rw [e1] at e; rw [List.length_cons, h _ _ _ e]
    | none => rw [e1] at e; cases e
theorem dg_tup {es : List Expr} {kk n : Nat} {is : List Nat} {gs : List D → Env → Option Env} (hc : X.calm = true) (h : DGs X T W es is gs) (hk : Takes_ gs n) (hn : (assignEach es X.env).length = n := by rfl) (hst : (assignEach es X.env).findIdx? (·.1) = none := by rfl) : DG X T W (.Tuple es kk pos) is (gTp gs) := by
  refine PG.imp (pg_tup hc h hn hst) fun v σ H Q q => ?_
  obtain ⟨τ, ρ, G, d, k, rz, ρ', e, q⟩ := q
  cases d with
  | tup ds =>
    rw [Rz] at rz
    obtain ⟨a, xs, e1, e2, e3⟩ := rz
    exact ⟨a, xs, e1, Same.tup k.sub e2.t, by rw [e3.len]; exact hk _ _ _ e, τ, ρ, G, ds, k, e3, ρ', e, q⟩
  | _ => cases e
def dAsg (d : DEn) (g : D → Env → Option Env) : DSn := fun ρ => (d ρ).bind fun p => (ofO (g p.2 p.1)).bind fun ρ1 => .ok (ρ1, .nx)
theorem ds_asg {tg e : Expr} {is : List Nat} {d : DEn} {g : D → Env → Option Env} (h : DE X T W e d) (hg : DG X T W tg is g) (hs : swapsWithSole [tg] e pos.line X.env = pure false := by rfl) (hw : swappedStores [tg] e X.env = pure none := by rfl)
    (h1 : (assignEach [tg] X.env).map (·.2) = [assign tg X.env] := by rfl) : DS X T W (.Assign [tg] e pos) (dAsg d g) := by
  refine PS.imp (ps_asg h hg hs hw h1) fun D σ H q => ?_
  obtain ⟨τ, ρ, G, k, q⟩ := q
  refine ⟨τ, ρ, G, k, (OutS.bindE q).imp fun ρ1 r G1 H1 k1 fr1 q1 v rv => ?_⟩
  dsimp only at q1
  cases e1 : g r ρ1 with
  | some ρ2 =>
    rw [e1] at q1
    exact ⟨τ, ρ1, G1, r, k1, rv, ρ2, e1, fun σ2 k2 f2 _ => q1 σ2 G1 H1 k2 (fr1.trans f2)⟩
  | none => rw [e1] at q1; exact q1.elim
end
end Zd
end
section
/-! Zd 6: parallel stores, stores into lists, loops. -/
namespace Zd
open PySem PySem.Spec PyProof.Rows L2
set_option autoImplicit false

def setV : List Nat → List V → L2.St → L2.St
  | i :: is, v :: vs, σ => setV is vs (σ.set i (some v))
  | _, _, σ => σ
def setAll : List Nat → List Op → Env → Option Env
  | [], [], ρ => some ρ
  | i :: is, o :: os, ρ => (toB o).bind fun b => setAll is os (ρ.set i (some b))
  | _, _, _ => none
section
variable {K : PySem.W.Frag} {T : Tab} {W : WX} {τ : Nat → Addr} {ρ ρ' : Env} {σ σ' : L2.St} {G G' H H' : Hp}
/-- operands that wait to be stored -/
def RpB (K : PySem.W.Frag) (T : Tab) (ρ : Env) (σ : L2.St) (G H : Hp) (v : V) : Op → Prop
  | .v d => Rz K T G v d
  | .pl _ => True
  | .fr o => ∃ a, v = .ref a ∧ G a = none ∧ RO K T G H a o ∧ ¬ OwnAt ρ σ a
def RpBs (K : PySem.W.Frag) (T : Tab) (ρ : Env) (σ : L2.St) (G H : Hp) : List V → List Op → Prop
  | [], [] => True
  | v :: vs, o :: os => RpB K T ρ σ G H v o ∧ RpBs K T ρ σ G H vs os ∧ Apart v o vs os
  | _, _ => False
theorem RpOp.b {v : V} {o : Op} (h : RpOp K T ρ σ G H v o) : RpB K T ρ σ G H v o := by
  cases o with
  | v d => exact h
  | pl i => exact True.intro
  | fr o => exact h
theorem RpOps.bs : ∀ {vs : List V} {os : List Op}, RpOps K T ρ σ G H vs os → RpBs K T ρ σ G H vs os
  | [], [], _ => True.intro
  | _ :: _, _ :: _, h => ⟨h.1.b, RpOps.bs h.2.1, h.2.2⟩
  | [], _ :: _, h => h.elim
  | _ :: _, [], h => h.elim
theorem RpB.set {i : Nat} {w v : V} {b : B} {o op : Op} (h : RpB K T ρ σ G H v o) (e : toB op = some b) (ap : ∀ od od', op = .fr od → o = .fr od' → v ≠ w) : RpB K T (ρ.set i (some b)) (σ.set i (some w)) G H v o := by
  cases o with
  | v d => exact h
  | pl j => exact True.intro
  | fr o =>
    obtain ⟨a, e1, g, r, n⟩ := h
    refine ⟨a, e1, g, r, fun z => ?_⟩
    rcases own_set z with z | ⟨t, o', e2, e3⟩
    · exact n z
    · cases op with
      | v d => cases e; cases e2
      | pl j => cases e
      | fr od => exact ap od o rfl rfl (by rw [e1, e3])
theorem RpBs.set {i : Nat} {w : V} {b : B} {op : Op} (e : toB op = some b) : ∀ {vs : List V} {os : List Op}, RpBs K T ρ σ G H vs os → Apart w op vs os → RpBs K T (ρ.set i (some b)) (σ.set i (some w)) G H vs os
  | [], [], _, _ => True.intro
  | v :: vs, o :: os, h, ap => by
    refine ⟨h.1.set e fun od od' z1 z2 => ?_, RpBs.set e h.2.1 fun od z j od' ej => ?_, h.2.2⟩
    · have := ap od z1 0 od' (by rw [z2]; rfl)
      intro q
      exact this (by rw [q]; rfl)
    · have := ap od z (j + 1) od' (by rw [List.getElem?_cons_succ]; exact ej)
      rw [List.getElem?_cons_succ] at this
      exact this
  | [], _ :: _, h, _ => h.elim
  | _ :: _, [], h, _ => h.elim
theorem RpB.op {v : V} {o : Op} {b : B} (h : RpB K T ρ σ G H v o) (e : toB o = some b) : RpOp K T ρ σ G H v o := by
  cases o with
  | v d => exact h
  | pl i => cases e
  | fr o => exact h
theorem setAll_ok : ∀ {is : List Nat} {vs : List V} {os : List Op} {ρ ρ' : Env} {σ : L2.St} {ρ0 : Env} {σ0 : L2.St} {G0 H0 : Hp}, Ok K T τ ρ σ G H → RpBs K T ρ σ G H vs os → Fr ρ0 σ0 G0 H0 ρ σ G H → FreshVs H0 vs os → setAll is os ρ = some ρ' →
    Ok K T τ ρ' (setV is vs σ) G H ∧ Fr ρ0 σ0 G0 H0 ρ' (setV is vs σ) G H
  | [], [], [], ρ, ρ', σ, _, _, _, _, k, _, f, _, e => by cases e; exact ⟨k, f⟩
  | i :: is, v :: vs, o :: os, ρ, ρ', σ, ρ0, σ0, G0, H0, k, r, f, fv, e => by
    unfold setAll at e
    cases e1 : toB o with
    | none => rw [e1] at e; cases e
    | some b =>
      rw [e1] at e
      simp only [Option.bind_some] at e
      have k2 := k.setOp (i := i) (r.1.op e1) e1
      have f2 := f.setOp (i := i) (v := v) (op := o) (fun od z => by
        obtain ⟨a, q1, q2⟩ := fv 0 od (by rw [z]; rfl)
        exact ⟨a, by simpa using q1, q2⟩) e1
      exact setAll_ok (is := is) (vs := vs) (os := os) k2 (r.2.1.set e1 r.2.2) f2 (fun j od ej => by
        obtain ⟨a, q1, q2⟩ := fv (j + 1) od (by rw [List.getElem?_cons_succ]; exact ej)
        exact ⟨a, by rw [List.getElem?_cons_succ] at q1; exact q1, q2⟩) e
  | [], [], _ :: _, _, _, _, _, _, _, _, _, h, _, _, _ => h.elim
  | [], _ :: _, [], _, _, _, _, _, _, _, _, h, _, _, _ => h.elim
  | _ :: _, [], _ :: _, _, _, _, _, _, _, _, _, h, _, _, _ => h.elim
  | _ :: _, _ :: _, [], _, _, _, _, _, _, _, _, h, _, _, _ => h.elim
  | [], _ :: _, _ :: _, _, _, _, _, _, _, _, _, _, _, _, e => by cases e
  | _ :: _, [], [], _, _, _, _, _, _, _, _, _, _, _, e => by cases e
end
section
variable {X : Cx} {T : Tab} {W : WX} {pos : Pos}
/-! ### a, b, .. = x, y, .. -/
def dPar (is : List Nat) (a : DAn) : DSn := fun ρ => (a ρ).bind fun p => (ofO (setAll is p.2 p.1)).bind fun ρ1 => .ok (ρ1, .nx)
theorem tPar_of {K : PySem.W.Frag} {is : List Nat} {a : DAn} (D : Ends) (σ : L2.St) (H : Hp) (q : tS K T W (dPar is a) D σ H) : tA K T W a σ H fun vs H1 => vs.length = is.length ∧ ∀ H2, Same H1 H2 → D.nx (setV is vs σ) H2 := by
  obtain ⟨τ, ρ, G, k, q⟩ := q
  refine ⟨τ, ρ, G, k, (OutS.bindE q).imp fun ρ1 ops G1 H1 k1 fr1 q1 vs rvs fvs => ?_⟩
  dsimp only at q1
  cases e1 : setAll is ops ρ1 with
  | none => rw [e1] at q1; exact q1.elim
  | some ρ2 =>
    rw [e1] at q1
    have hl : ∀ {is : List Nat} {os : List Op} {ρ ρ' : Env}, setAll is os ρ = some ρ' → os.length = is.length := by
      intro is
      induction is with
      | nil => intro os ρ ρ' e; cases os <;> first | rfl | cases e
      | cons i is ih =>
        intro os ρ ρ' e
        cases os with
        | nil => cases e
        | cons o os =>
          unfold setAll at e
          cases h : toB o with
          | none => rw [h] at e; cases e
          | some b => rw [h] at e; rw [List.length_cons, List.length_cons, ih e]
    have hv : ∀ {vs : List V} {os : List Op}, RpBs K T ρ1 σ G1 H1 vs os → vs.length = os.length := by
      intro vs
      induction vs with
      | nil => intro os h; cases os <;> first | rfl | exact h.elim
      | cons v vs ih =>
        intro os h
        cases os with
        | nil => exact h.elim
        | cons o os => rw [List.length_cons, List.length_cons, ih h.2.1]
    refine ⟨(hv rvs.bs).trans (hl e1), fun H2 s2 => ?_⟩
    have n : New G1 H1 G1 H2 := ⟨Same.refl _, s2, k1.sub.trans s2, fun _ _ _ => rfl⟩
    have rb : RpBs K T ρ1 σ G1 H2 vs ops := by
      have go : ∀ {vs : List V} {os : List Op}, RpBs K T ρ1 σ G1 H1 vs os → RpBs K T ρ1 σ G1 H2 vs os := by
        intro vs
        induction vs with
        | nil => intro os h; cases os <;> first | trivial | exact h.elim
        | cons v vs ih =>
          intro os h
          cases os with
          | nil => exact h.elim
          | cons o os =>
            refine ⟨?_, ih h.2.1, h.2.2⟩
            cases o with
            | v d => exact h.1
            | pl i => exact True.intro
            | fr o =>
              obtain ⟨a, z1, z2, z3, z4⟩ := h.1
              exact ⟨a, z1, z2, z3.mono (Same.refl _) fun u hu => s2 _ _ hu, z4⟩
      exact go rvs.bs
    obtain ⟨k2, f2⟩ := setAll_ok (k1.new n) rb (fr1.trans n.fr) fvs e1
    exact q1 _ G1 H2 k2 f2
theorem ds_par2 {i j : Nat} {x y : Str} {a b : Expr} {da : DAn} {px py pt : Pos} {kt k2 pt2} (hc : X.calm = true) (hN : X.N.Nodup) (ha : DA X T W [a, b] da) (hi : X.N[i]? = some x := by rfl) (hj : X.N[j]? = some y := by rfl) (hij : i ≠ j := by decide)
    (hx : X.env.scope.names.lookup x = some .local := by rfl) (hy : X.env.scope.names.lookup y = some .local := by rfl)
    (hw : swappedStores [.Tuple [.Name x px, .Name y py] kt pt] (.Tuple [a, b] k2 pt2) X.env = pure (some [x, y]) := by rfl)
    (hs : swapsWithSole [.Tuple [.Name x px, .Name y py] kt pt] (.Tuple [a, b] k2 pt2) pos.line X.env = pure false := by rfl) :
    DS X T W (.Assign [.Tuple [.Name x px, .Name y py] kt pt] (.Tuple [a, b] k2 pt2) pos) (dPar [i, j] da) := by
  refine PS.imp (ps_par hc hN hi hj hij hx hy ha hw hs) fun D σ H q => ?_
  obtain ⟨τ, ρ, G, k, q⟩ := tPar_of D σ H q
  refine ⟨τ, ρ, G, k, q.imp fun ρ1 ops G1 H1 k1 fr1 q1 vs rvs fvs => ?_⟩
  obtain ⟨hl, q2⟩ := q1 vs rvs fvs
  match vs, hl with
  | [v, w], _ => exact ⟨v, w, rfl, q2 H1 (Same.refl _)⟩
theorem ds_par3 {i j l : Nat} {x y z : Str} {a b c : Expr} {da : DAn} {px py pz pt : Pos} {kt k2 pt2} (hc : X.calm = true) (hN : X.N.Nodup) (ha : DA X T W [a, b, c] da) (hi : X.N[i]? = some x := by rfl) (hj : X.N[j]? = some y := by rfl) (hl : X.N[l]? = some z := by rfl)
    (hij : i ≠ j := by decide) (hil : i ≠ l := by decide) (hjl : j ≠ l := by decide)
    (hx : X.env.scope.names.lookup x = some .local := by rfl) (hy : X.env.scope.names.lookup y = some .local := by rfl) (hz : X.env.scope.names.lookup z = some .local := by rfl)
    (hw : swappedStores [.Tuple [.Name x px, .Name y py, .Name z pz] kt pt] (.Tuple [a, b, c] k2 pt2) X.env = pure (some [x, y, z]) := by rfl)
    (hs : swapsWithSole [.Tuple [.Name x px, .Name y py, .Name z pz] kt pt] (.Tuple [a, b, c] k2 pt2) pos.line X.env = pure false := by rfl) :
    DS X T W (.Assign [.Tuple [.Name x px, .Name y py, .Name z pz] kt pt] (.Tuple [a, b, c] k2 pt2) pos) (dPar [i, j, l] da) := by
  refine PS.imp (ps_par3 hc hN hi hj hl hij hil hjl hx hy hz ha hw hs) fun D σ H q => ?_
  obtain ⟨τ, ρ, G, k, q⟩ := tPar_of D σ H q
  refine ⟨τ, ρ, G, k, q.imp fun ρ1 ops G1 H1 k1 fr1 q1 vs rvs fvs => ?_⟩
  obtain ⟨hl, q2⟩ := q1 vs rvs fvs
  match vs, hl with
  | [u, v, w], _ => exact ⟨u, v, w, rfl, q2 H1 (Same.refl _)⟩
/-- names in a row as targets -/
def tNms (is : List Nat) : TGs := fun vs σ H Q => vs.length = is.length ∧ Q (setV is vs σ) H
theorem nms_nil : PGs X [] (tNms []) := by
  refine PGs.imp pgs_nil fun vs σ H Q q => ?_
  obtain ⟨hl, q⟩ := q
  cases vs with
  | nil => exact ⟨rfl, q⟩
  | cons v vs => cases hl
theorem nms_cons {i : Nat} {is : List Nat} {x : Str} {es : List Expr} {p : Pos} (hN : X.N.Nodup) (r : PGs X es (tNms is)) (hi : X.N[i]? = some x := by rfl) (hx : Loc X.env.scope x := by first | exact .inl rfl | exact .inr rfl)
    (hf : X.fn x = true ∨ X.env.scope.names.lookup x = some .local := by first | exact .inl rfl | exact .inr rfl) (hs : (assignEach (.Name x p :: es) X.env).map (·.2) = assign (.Name x p) X.env :: (assignEach es X.env).map (·.2) := by rfl) : PGs X (.Name x p :: es) (tNms (i :: is)) := by
  refine PGs.imp (pgs_cons (pg_name hN hi hx hf) r hs) fun vs σ H Q q => ?_
  obtain ⟨hl, q⟩ := q
  cases vs with
  | nil => cases hl
  | cons v vs => exact ⟨v, vs, rfl, by simpa using hl, q⟩
/-- .. where the tuple is made and taken apart -/
theorem ds_parN {is : List Nat} {ts es : List Expr} {da : DAn} {kt k2 : Nat} {pt pt2 : Pos} (hc : X.calm = true) (h : PGs X ts (tNms is)) (ha : DA X T W es da) (hz : is.length ≤ 1000 := by decide)
    (hn : (assignEach ts X.env).length = is.length := by rfl) (hst : (assignEach ts X.env).findIdx? (·.1) = none := by rfl)
    (hs : swapsWithSole [.Tuple ts kt pt] (.Tuple es k2 pt2) pos.line X.env = pure false := by rfl) (hw : swappedStores [.Tuple ts kt pt] (.Tuple es k2 pt2) X.env = pure none := by rfl)
    (h1 : (assignEach [.Tuple ts kt pt] X.env).map (·.2) = [assign (.Tuple ts kt pt) X.env] := by rfl) : DS X T W (.Assign [.Tuple ts kt pt] (.Tuple es k2 pt2) pos) (dPar is da) := by
  refine PS.imp (ps_asg (pe_tup ha) (pg_tup hc h hn hst) hs hw h1) fun D σ H q => ?_
  obtain ⟨τ, ρ, G, k, q⟩ := tPar_of D σ H q
  refine ⟨τ, ρ, G, k, q.imp fun ρ1 ops G1 H1 k1 fr1 q1 vs rvs fvs => ?_⟩
  obtain ⟨hl, q2⟩ := q1 vs rvs fvs
  refine ⟨line_of (by omega), fun p hp => ?_⟩
  exact ⟨p, vs, rfl, .inl (.inl upd_same), hl, hl, q2 _ (Same.upd hp)⟩

/-! ### x[i] = e, x.append(e), x op= e -/
def isOwn (b : Option (Option B)) : Bool := match b with
  | some (some (.own _ (.lst _))) => true
  | _ => false
def dSetIx (i : Nat) (di dv : DEn) : DSn := fun ρ => (dv ρ).bind fun p => if isOwn p.1[i]? = true then (di p.1).bind fun q => match q.1[i]?, q.2 with
  | some (some (.own t (.lst ds))), .int k => (ofO (ixN ds.length k)).bind fun j => .ok (q.1.set i (some (.own t (.lst (ds.set j p.2)))), .nx)
  | _, _ => .bad
  else .bad
theorem isOwn_slot {K : PySem.W.Frag} {τ : Nat → Addr} {ρ : Env} {σ : L2.St} {G H : Hp} (k : Ok K T τ ρ σ G H) {i : Nat} (e : isOwn ρ[i]? = true) : ∃ a xs, σ[i]? = some (some (V.ref a)) ∧ H a = some (.lst xs) := by
  unfold isOwn at e
  split at e
  · rename_i t ds h
    obtain ⟨a, q, g, ⟨xs, h1, h2⟩, _⟩ := k.own i t _ h
    exact ⟨a, xs, q, h1⟩
  · cases e
theorem ds_setIx {i : Nat} {x : Str} {e ix : Expr} {di dv : DEn} {px ps : Pos} (ho : PE X (.Name x px) (tVar i)) (hi : DE X T W ix di) (hv : DE X T W e dv)
    (ha : ∀ v, assign (.Subscript (.Name x px) ix ps) X.env v = (do
      let ov ← holding [v] (eval (.Name x px) X.env)
      let iv ← holding [v, ov] (eval ix X.env)
      standAt ps
      holding [v, ov, iv] (setItem ov iv v)
      release [v, ov, iv] []) := by intro _; rfl)
    (hs : swapsWithSole [.Subscript (.Name x px) ix ps] e pos.line X.env = pure false := by rfl) (hw : swappedStores [.Subscript (.Name x px) ix ps] e X.env = pure none := by rfl)
    (h1 : (assignEach [.Subscript (.Name x px) ix ps] X.env).map (·.2) = [assign (.Subscript (.Name x px) ix ps) X.env] := by rfl) : DS X T W (.Assign [.Subscript (.Name x px) ix ps] e pos) (dSetIx i di dv) := by
  refine PS.imp (ps_asg hv (pg_sub ho hi set_list ha) hs hw h1) fun D σ H q => ?_
  obtain ⟨τ, ρ, G, k, q⟩ := q
  refine ⟨τ, ρ, G, k, (OutS.bindE q).imp fun ρ1 r G1 H1 k1 fr1 q1 v rv => ?_⟩
  dsimp only at q1
  by_cases ho : isOwn ρ1[i]? = true
  · rw [if_pos ho] at q1
    obtain ⟨a, xs0, hsl, _⟩ := isOwn_slot k1 ho
    refine ⟨_, hsl, τ, ρ1, G1, k1, (OutS.bindE (OutS.shift fr1 q1)).imp fun ρ2 r2 G2 H2 k2 fr2 q2 w rw' => ?_⟩
    dsimp only at q2
    split at q2
    · rename_i t ds kk h2
      obtain ⟨b, e1, g, ⟨xs, e2, e3⟩, ht⟩ := k2.own i t _ h2
      rw [hsl] at e1
      have e1' : V.ref a = V.ref b := by injection e1 with e1; injection e1
      cases e1'
      cases e4 : ixN ds.length kk with
      | none => rw [e4] at q2; exact q2.elim
      | some j =>
        rw [e4] at q2
        have hw2 : w = .int kk := Rb.int (G := G2) (H := H2) (.inl rw')
        refine ⟨a, xs, kk, j, rfl, hw2, e2, by rw [e3.len]; exact e4, ?_⟩
        obtain ⟨k3, f3⟩ := k2.updOwn (o' := .lst (ds.set j r)) (u := .lst (xs.set j v)) h2 hsl g ht ⟨_, upd_same, e3.set (rv.mono fr2.gro) j⟩
        exact q2 σ G2 _ k3 (fr2.trans f3)
    · exact q2.elim
  · rw [if_neg ho] at q1; exact q1.elim
/-- x.append(e) -/
def dApp (i : Nat) (d : DEn) : DSn := fun ρ => if isOwn ρ[i]? = true then (d ρ).bind fun p => match p.1[i]? with
  | some (some (.own t (.lst ds))) => sz (ds.length + 1) (.ok (p.1.set i (some (.own t (.lst (ds ++ [p.2])))), .nx))
  | _ => .bad
  else .bad
theorem lt_line {n : Nat} (h : n + 1 ≤ 1000000) : n < sizeLine := by rw [sizeLine_eq]; omega
theorem ds_app {i : Nat} {x : Str} {e : Expr} {d : DEn} {px apos cpos : Pos} (ho : PE X (.Name x px) (tVar i)) (h : DE X T W e d)
    (hbase : attributeBase (.Name x px) "append" X.env (eval (.Name x px) X.env) = eval (.Name x px) X.env := by rfl)
    (hfew : ((backTo cpos (starEach (e :: []) X.env)).all (fun x => !x.1) && (backToKw cpos (keywordEach [] X.env)).all (fun x => x.1.isSome)
      && decide ((e :: []).length + ([] : List Keyword).length + (if ([] : List Keyword).isEmpty then 0 else 1) < 30)) = true := by rfl)
    (hline : (apos.endLine == cpos.line) = true := by rfl) (hs : starEach (e :: []) X.env = (false, eval e X.env) :: starEach [] X.env := by rfl) (hplain : (backTo cpos (starEach [] X.env)).any (·.1) = false := by rfl)
    (hsw : swapsWith (.Call (.Attribute (.Name x px) "append" apos) [e] [] cpos) none pos.line X.env = pure false := by rfl) :
    DS X T W (.Expr (.Call (.Attribute (.Name x px) "append" apos) [e] [] cpos) pos) (dApp i d) := by
  refine PS.imp (ps_expr (pe_bm PySem.F.plainAttrs_list PySem.F.slot_list_append PySem.F.type_list_append mt_append ho (pa_cons h pa_nil hs) hbase hfew hline hs hplain) hsw) fun D σ H q => ?_
  obtain ⟨τ, ρ, G, k, q⟩ := q
  unfold dApp at q
  by_cases ho : isOwn ρ[i]? = true
  · rw [if_pos ho] at q
    obtain ⟨a, xs0, hsl, hx0⟩ := isOwn_slot k ho
    refine ⟨_, hsl, .inl ⟨rfl, xs0, SqL.of hx0⟩, τ, ρ, G, k, (OutS.bindE q).imp fun ρ1 r G1 H1 k1 fr1 q1 v rv => ?_⟩
    dsimp only at q1
    split at q1
    · rename_i t ds h2
      obtain ⟨b, e1, g, ⟨xs, e2, e3⟩, ht⟩ := k1.own i t _ h2
      rw [hsl] at e1
      have e1' : V.ref a = V.ref b := by injection e1 with e1; injection e1
      cases e1'
      by_cases hz : ds.length + 1 ≤ 1000000
      · rw [sz_ok hz] at q1
        refine ⟨a, xs, v, rfl, rfl, e2, lt_line (by rw [e3.len]; exact hz), ?_⟩
        obtain ⟨k3, f3⟩ := k1.updOwn (o' := .lst (ds ++ [r])) (u := .lst (xs ++ [v])) h2 hsl g ht ⟨_, upd_same, e3.append (RzL.cons rv RzL.nil)⟩
        exact q1 σ G1 _ k3 (fr1.trans f3)
      · unfold sz at q1; rw [if_neg hz] at q1; exact q1.elim
    · exact q1.elim
  · rw [if_neg ho] at q; exact q.elim
/-- x op= e, x a value -/
def dAug (i : Nat) (f : D → D → Option D) (d : DEn) : DSn := fun ρ => match ρ[i]? with
  | some (some (.val a)) => (d ρ).bind fun p => (ofO (f a p.2)).bind fun r => .ok (p.1.set i (some (.val r)), .nx)
  | _ => .bad
theorem ds_aug {i : Nat} {x : Str} {e : Expr} {op : Operator} {ti : TIp} {f : D → D → Option D} {d : DEn} {px : Pos} (hN : X.N.Nodup) (hs : Snd2 X.K T ti f) (ho : PIp X op ti) (h : DE X T W e d) (hi : X.N[i]? = some x := by rfl) (hx : Loc X.env.scope x := by first | exact .inl rfl | exact .inr rfl)
    (hf : X.fn x = true ∨ X.env.scope.names.lookup x = some .local := by first | exact .inl rfl | exact .inr rfl) : DS X T W (.AugAssign (.Name x px) op e pos) (dAug i f d) := by
  refine PS.imp (ps_aug hN hi hx h ho hf) fun D σ H q => ?_
  obtain ⟨τ, ρ, G, k, q⟩ := q
  unfold dAug at q
  split at q
  · rename_i a h1
    obtain ⟨v0, hsl, r0⟩ := k.val i a h1
    refine ⟨v0, hsl, τ, ρ, G, k, (OutS.bindE q).imp fun ρ1 r G1 H1 k1 fr1 q1 v rv => ?_⟩
    dsimp only at q1
    cases e1 : f a r with
    | none => rw [e1] at q1; exact q1.elim
    | some z =>
      rw [e1] at q1
      refine hs v0 v a r z G1 H1 _ k1.sub (.inl (r0.mono fr1.gro)) (.inl rv) e1 fun u G2 H2 n rz => ?_
      exact q1 _ G2 H2 ((k1.new n).setOp (op := .v z) rz rfl) ((fr1.trans n.fr).setOp (op := .v z) (fun _ z => nomatch z) rfl)
  · exact q.elim
theorem ds_augAdd {i : Nat} {x : Str} {e : Expr} {d : DEn} {px : Pos} (hN : X.N.Nodup) (h : DE X T W e d) (hi : X.N[i]? = some x := by rfl) (hx : Loc X.env.scope x := by first | exact .inl rfl | exact .inr rfl)
    (hf : X.fn x = true ∨ X.env.scope.names.lookup x = some .local := by first | exact .inl rfl | exact .inr rfl) : DS X T W (.AugAssign (.Name x px) .Add e pos) (dAug i (i0D fun i j => .int (i + j)) d) :=
  ds_aug hN (snd_rI0 (g := fun i j => .int (i + j)) fun _ _ _ => Rz.int_) ip_add h hi hx hf

/-! ### while -/
def wl (t : DTn) (b : DSn) : Nat → DSn
  | 0, _ => .bad
  | n + 1, ρ => (t ρ).bind fun p => if p.2 = true then (b p.1).bind fun q => match q.2 with
    | .nx => wl t b n q.1
    | .ct => wl t b n q.1
    | .bk => .ok (q.1, .nx)
    | .rt d => .ok (q.1, .rt d)
    else .ok (p.1, .nx)
theorem ds_while {c : Expr} {body : List Stmt} {t : DTn} {b : DSn} (n : Nat) (hp : PassesOwn (model X.prog X.w) X.A X.env X.xe) (hc : DT X T W c t) (hb : DSs X T W body b) : DS X T W (.While c body [] pos) (wl t b n) := by
  refine PS.imp (ps_while hp hc hb) fun D σ H q => ?_
  refine ⟨fun m σ H => tS X.K T W (wl t b m) D σ H, ⟨n, q⟩, fun m σ H q => ?_⟩
  obtain ⟨τ, ρ, G, k, q⟩ := q
  cases m with
  | zero => exact q.elim
  | succ m =>
    have q0 : OutS X.K T W τ ρ σ G H ((t ρ).bind fun p => if p.2 = true then (b p.1).bind fun q => match q.2 with
      | .nx => wl t b m q.1
      | .ct => wl t b m q.1
      | .bk => .ok (q.1, .nx)
      | .rt d => .ok (q.1, .rt d)
      else .ok (p.1, .nx)) D := q
    refine ⟨τ, ρ, G, k, (OutS.bindE q0).imp fun ρ1 r G1 H1 k1 fr1 q1 => ?_⟩
    dsimp only at q1
    cases r with
    | false => rw [if_neg Bool.false_ne_true] at q1 ⊢; exact q1 σ G1 H1 k1 fr1
    | true =>
      rw [if_pos rfl] at q1 ⊢
      refine ⟨fun σ' H' => tS X.K T W (wl t b m) D σ' H', fun σ' H' h => ⟨m, Nat.lt_succ_self _, h⟩, τ, ρ1, G1, k1, ?_⟩
      have q2 := OutS.shift fr1 q1
      cases e : b ρ1 with
      | bad => rw [e] at q2; exact q2.elim
      | ex ρ2 x => rw [e] at q2; exact q2
      | ok p =>
        rw [e] at q2
        obtain ⟨ρ2, f⟩ := p
        cases f with
        | nx => exact fun σ2 G2 H2 k2 f2 => ⟨τ, ρ2, G2, k2, OutS.shift f2 q2⟩
        | ct => exact fun σ2 G2 H2 k2 f2 => ⟨τ, ρ2, G2, k2, OutS.shift f2 q2⟩
        | bk => exact fun σ2 G2 H2 k2 f2 => q2 σ2 G2 H2 k2 f2
        | rt d => exact fun v σ2 G2 H2 k2 f2 rz => q2 v σ2 G2 H2 k2 f2 rz

/-! ### for -/
abbrev DIn := Env → R (Env × List D)
/-- what an iterator yields, over any later heap -/
def Walks_ (K : PySem.W.Frag) (T : Tab) (J : It) (G0 : Hp) (items : List D) : Prop := ∀ i G H, Same G0 G → Same G H →
  (∀ d, items[i]? = some d → J.go i H ∧ ∀ x H', J.yld i H x H' → ∃ G', New G H G' H' ∧ Rz K T G' x d) ∧ (i = items.length → J.stop i H)
def tI (K : PySem.W.Frag) (T : Tab) (W : WX) (d : DIn) : TI := fun σ H R => ∃ τ ρ G, Ok K T τ ρ σ G H ∧ Out K T W τ ρ σ G H (d ρ) fun _ items G' H' => ∀ J, Walks_ K T J G' items → R J H'
def DI (X : Cx) (T : Tab) (W : WX) (tg iter : Expr) (d : DIn) : Prop := PI X tg iter (tI X.K T W d)
theorem PI.imp {tg iter : Expr} {t t' : TI} (h : PI X tg iter t) (i : ∀ σ H Q, t' σ H Q → t σ H Q) : PI X tg iter t' := ⟨fun pins s σ H Q I q => h.run pins s σ H Q I (i _ _ _ q)⟩
def fl (g : D → Env → Option Env) (b : DSn) : List D → DSn
  | [], ρ => .ok (ρ, .nx)
  | d :: ds, ρ => (ofO (g d ρ)).bind fun ρ1 => (b ρ1).bind fun q => match q.2 with
    | .nx => fl g b ds q.1
    | .ct => fl g b ds q.1
    | .bk => .ok (q.1, .nx)
    | .rt d => .ok (q.1, .rt d)
def dFor (di : DIn) (g : D → Env → Option Env) (b : DSn) : DSn := fun ρ => (di ρ).bind fun p => fl g b p.2 p.1
theorem ds_for {tg iter : Expr} {is : List Nat} {body : List Stmt} {di : DIn} {g : D → Env → Option Env} {b : DSn} (hp : PassesOwn (model X.prog X.w) X.A X.env X.xe) (hc : X.calm = true) (hi : DI X T W tg iter di) (hg : DG X T W tg is g) (hb : DSs X T W body b)
    (hs : ∀ x, foldedSetIterable iter X.env x = pure x := by intro _; rfl) : DS X T W (.For tg iter body [] pos) (dFor di g b) := by
  refine PS.imp (ps_for hp hc hi hg hb hs) fun D σ H q => ?_
  obtain ⟨τ, ρ, G, k, q⟩ := q
  refine ⟨τ, ρ, G, k, (OutS.bindE q).imp fun ρ1 items G1 H1 k1 fr1 q1 J wk => ?_⟩
  have q2 := OutS.shift fr1 q1
  refine ⟨fun i m σ H => m = items.length - i ∧ i ≤ items.length ∧ ∃ ρ G, Same G1 G ∧ Ok X.K T τ ρ σ G H ∧ OutS X.K T W τ ρ σ G H (fl g b (items.drop i) ρ) D, ⟨_, rfl, Nat.zero_le _, ρ1, G1, Same.refl _, k1, by rw [List.drop_zero]; exact q2⟩, fun i m σ H hW => ?_⟩
  obtain ⟨rfl, hi, ρ2, G2, sg, k2, q3⟩ := hW
  obtain ⟨go, stop⟩ := wk i G2 H sg k2.sub
  by_cases hlt : i < items.length
  · have hd : items[i]? = some items[i] := List.getElem?_eq_getElem hlt
    obtain ⟨h1, h2⟩ := go _ hd
    rw [List.drop_eq_getElem_cons hlt] at q3
    have q4 : OutS X.K T W τ ρ2 σ G2 H ((ofO (g items[i] ρ2)).bind fun ρ1 => (b ρ1).bind fun q => match q.2 with
      | .nx => fl g b (items.drop (i + 1)) q.1
      | .ct => fl g b (items.drop (i + 1)) q.1
      | .bk => .ok (q.1, .nx)
      | .rt d => .ok (q.1, .rt d)) D := q3
    refine .inr ⟨h1, fun σ' H' => ∃ ρ G, Same G1 G ∧ Ok X.K T τ ρ σ' G H' ∧ OutS X.K T W τ ρ σ' G H' (fl g b (items.drop (i + 1)) ρ) D, fun σ' H' hN => ⟨items.length - (i + 1), by omega, rfl, hlt, hN⟩, fun x H' hy => ?_⟩
    obtain ⟨G3, n, rz⟩ := h2 x H' hy
    have k3 := k2.new n
    cases e : g items[i] ρ2 with
    | none => rw [e] at q4; exact q4.elim
    | some ρ3 =>
      rw [e] at q4
      refine ⟨τ, ρ2, G3, items[i], k3, rz, ρ3, e, fun σ3 k4 f4 _ => ?_⟩
      have q5 := OutS.shift (n.fr.trans f4) q4
      dsimp only [ofO_some, R.bind_ok] at q5
      refine ⟨τ, ρ3, G3, k4, ?_⟩
      have sg3 : Same G1 G3 := sg.trans n.gro
      cases e2 : b ρ3 with
      | bad => rw [e2] at q5; exact q5.elim
      | ex ρ4 x => rw [e2] at q5; exact q5
      | ok p =>
        rw [e2] at q5
        obtain ⟨ρ4, f⟩ := p
        cases f with
        | nx => exact fun σ5 G5 H5 k5 f5 => ⟨ρ4, G5, sg3.trans f5.gro, k5, OutS.shift f5 q5⟩
        | ct => exact fun σ5 G5 H5 k5 f5 => ⟨ρ4, G5, sg3.trans f5.gro, k5, OutS.shift f5 q5⟩
        | bk => exact fun σ5 G5 H5 k5 f5 => q5 σ5 G5 H5 k5 f5
        | rt d => exact fun v σ5 G5 H5 k5 f5 rz => q5 v σ5 G5 H5 k5 f5 rz
  · have e : i = items.length := by omega
    subst e
    rw [List.drop_length] at q3
    exact .inl ⟨stop rfl, q3 σ G2 H k2 Fr.refl⟩
end
end Zd
end
section
/-! Zd 7: what a loop walks: lists and tuples, ranges, enumerate and zip over both kinds. -/
namespace Zd
open PySem PySem.Spec PyProof.Rows L2
set_option autoImplicit false
/-! ### lists and tuples alike: b = true a tuple -/
def Sq (K : PySem.W.Frag) (H : Hp) (b : Bool) (a : Addr) (xs : List V) : Prop := match b with
  | true => SqT K H a xs
  | false => SqL K H a xs
def IsSq (b : Bool) (h : Heap) (a : Addr) (items : Array Value) : Prop := match b with
  | true => h.IsTuple a items
  | false => h.IsList a items
def IsIt (b : Bool) (h : Heap) (it a : Addr) (i : Nat) : Prop := match b with
  | true => h.IsTupleIter it a i
  | false => h.IsListIter it a i
def itOb (b : Bool) (a : Addr) : Obj := match b with
  | true => { cls := .type "tuple_iterator", data := .fields #[.ref a, .int 0 0] }
  | false => { cls := .type "list_iterator", data := .fields #[.ref a, .int 0 0] }
theorem begins_sq (b : Bool) (a : Addr) (items : Array Value) : Begins (.ref a) (itOb b a) fun h => IsSq b h a items := by
  cases b with
  | true => exact begins_tuple a items
  | false => exact begins_list a items
theorem IsIt.new {b : Bool} {h : Heap} {it a : Addr} (e : h.get? it = some (itOb b a)) : IsIt b h it a 0 := by
  cases b with
  | true => exact ⟨_, e, rfl, rfl⟩
  | false => exact ⟨_, e, rfl, rfl⟩
theorem IsIt.at' {b : Bool} {h h' : Heap} {it a : Addr} {i : Nat} (x : IsIt b h it a i) (k : ∀ o, h.get? it = some o → h'.get? it = some o) : IsIt b h' it a i := by
  cases b with
  | true => exact Heap.IsTupleIter.at x k
  | false => exact Heap.IsListIter.at x k
theorem IsIt.ob {b : Bool} {h : Heap} {it a : Addr} {i : Nat} (x : IsIt b h it a i) : ∃ o, h.get? it = some o ∧ o.cls = .type (if b then "tuple_iterator" else "list_iterator") ∧ ∀ v, o.data ≠ .cell v := by
  cases b with
  | true => obtain ⟨o, h1, h2, h3⟩ := x; exact ⟨o, h1, h2, fun v q => by rw [h3] at q; cases q⟩
  | false => obtain ⟨o, h1, h2, h3⟩ := x; exact ⟨o, h1, h2, fun v q => by rw [h3] at q; cases q⟩
theorem IsSq.ob {b : Bool} {h : Heap} {a : Addr} {items : Array Value} (x : IsSq b h a items) : ∃ o, h.get? a = some o ∧ o.cls = .type (if b then "tuple" else "list") := by
  cases b with
  | true => obtain ⟨o, h1, h2, _⟩ := x; exact ⟨o, h1, h2⟩
  | false => obtain ⟨o, h1, h2, _⟩ := x; exact ⟨o, h1, h2⟩
theorem sq_ne_it {b c : Bool} {h : Heap} {a l it : Addr} {i : Nat} {items : Array Value} (x : IsSq b h a items) (y : IsIt c h it l i) : a ≠ it := fun e => by
  obtain ⟨o, h1, h2⟩ := x.ob
  obtain ⟨o', h3, h4, _⟩ := y.ob
  rw [e, h3] at h1; cases h1
  rw [h4] at h2
  revert h2
  cases b <;> cases c <;> decide
theorem sq_ne_cls {b : Bool} {h : Heap} {a e : Addr} {items : Array Value} {o : Obj} (x : IsSq b h a items) (he : h.get? e = some o) (h1 : o.cls ≠ .type "tuple") (h2 : o.cls ≠ .type "list") : a ≠ e := fun z => by
  obtain ⟨o', q1, q2⟩ := x.ob
  rw [z, he] at q1; cases q1
  cases b
  · exact h2 q2
  · exact h1 q2
theorem it_ne_cls {b : Bool} {h : Heap} {a it e : Addr} {i : Nat} {o : Obj} (x : IsIt b h it a i) (he : h.get? e = some o) (h1 : o.cls ≠ .type "tuple_iterator") (h2 : o.cls ≠ .type "list_iterator") : e ≠ it := fun z => by
  obtain ⟨o', q1, q2, _⟩ := x.ob
  rw [← z, he] at q1; cases q1
  cases b
  · exact h2 q2
  · exact h1 q2
theorem draws_sq {prog : Program} {w : World} {A : Around} (hh : A.handled = none) (b : Bool) (it l : Addr) (hne : l ≠ it) (items : Array Value) :
    Draws prog w A it [it, l] items.size (fun i v => items[i]? = some v) (fun i h => IsIt b h it l i ∧ IsSq b h l items) := by
  cases b with
  | true => exact Draws.tuple hh it l hne items
  | false => exact Draws.list hh it l hne items
section
variable {X : Cx} {pins : List (Addr × Obj)} {σ : L2.St} {H : Hp} {s : Shared}
theorem inv_sq (I : Inv X pins σ H s) {b : Bool} {a : Addr} {xs : List V} (h : Sq X.K H b a xs) : ∃ its : List Value, Vals xs its ∧ IsSq b s.heap a its.toArray ∧ xs.length ≤ sizeLine := by
  cases b with
  | true => obtain ⟨its, r, p, z⟩ := I.tuple h; exact ⟨its, r, p, z⟩
  | false => obtain ⟨its, r, p, z⟩ := I.list h; exact ⟨its, r, p.isList, z⟩
theorem sq_inj (I : Inv X pins σ H s) {b : Bool} {a : Addr} {xs ys : List V} (h : Sq X.K H b a xs) (h' : Sq X.K H b a ys) : xs = ys := by
  cases b with
  | true => exact I.tuple_inj h h'
  | false => exact I.list_inj h h'
end
theorem Sq.mono {K : PySem.W.Frag} {H H' : Hp} {b : Bool} {a : Addr} {xs : List V} (e : Same H H') (h : Sq K H b a xs) : Sq K H' b a xs := by
  cases b with
  | true => exact Same.tup e h
  | false => exact e.seq h

/-! ### enumerate -/
def IteB (K : PySem.W.Frag) (b : Bool) (a : Addr) : It :=
  ⟨fun i H => ∃ (xs : List V) (x : V), Sq K H b a xs ∧ xs[i]? = some x, fun i H v H' => ∃ T x, ∃ o : Obj, v = .ref T ∧ H T = none ∧ o.dict = none ∧ H' = upd H T (.frz o (.tup [.int (i : Nat), x])) ∧ ∀ xs, Sq K H b a xs → xs[i]? = some x, fun i H => ∃ xs : List V, Sq K H b a xs ∧ xs.length = i⟩
theorem turn_enumB {P : Program} {w : World} {K : PySem.W.Frag} {elts : List Expr} {kk : Nat} {tpos : Pos} (b : Bool) (a e it : Addr) :
    Turn P w K (.Tuple elts kk tpos) (IteB K b a) [e, it] e (fun i h => (∃ old, IsEnum h e it ((i : Nat) : Int) old) ∧ IsIt b h it a i) where
  mem := by simp
  obj := fun i h st c hb => by
    obtain ⟨⟨old, he⟩, hi⟩ := st
    have e' : c = e ∨ c = it := by simpa using hb
    rcases e' with z | z
    · rw [z]; exact ⟨_, he, fun v q => nomatch q⟩
    · obtain ⟨o, h1, _, h3⟩ := hi.ob
      rw [z]; exact ⟨o, h1, h3⟩
  keep := fun i h h' st k => let ⟨⟨old, he⟩, hi⟩ := st; ⟨⟨old, k e (by simp) _ he⟩, hi.at' fun o q => k it (by simp) o q⟩
  item := by
    intro X hP hw hK hc i pins s σ H E I hf st hg
    subst hP hw hK
    obtain ⟨⟨old, he⟩, hit⟩ := st
    obtain ⟨xs, x, hq, hx⟩ := hg
    obtain ⟨its, rv, p, hz⟩ := inv_sq I hq
    have hl := rv.length
    have hlt : i < its.length := by
      have := (List.getElem?_eq_some_iff.mp hx).1
      omega
    have hai : a ≠ it := sq_ne_it p hit
    have hei : e ≠ it := it_ne_cls hit he (by show Value.type "enumerate" ≠ .type "tuple_iterator"; decide) (by show Value.type "enumerate" ≠ .type "list_iterator"; decide)
    have hea : a ≠ e := sq_ne_cls p he (by show Value.type "enumerate" ≠ .type "tuple"; decide) (by show Value.type "enumerate" ≠ .type "list"; decide)
    have hel : e < s.heap.objs.size := Heap.lt_size he
    refine wpAny_pyNext_enum_itemD (draws_sq (show X.A.in1.handled = none from I.ok.hd hc) b it a hai its.toArray) he ⟨hit, p⟩ (by simpa using hlt) hei (by simp [hei, Ne.symm hea]) fun u h' tk hu ho hit' hT hsz hk => ?_
    have ru : RelV x u := by
      obtain ⟨u', hu', ru⟩ := rv.get hx
      have hu2 : its[i]? = some u := by simpa using hu
      rw [hu'] at hu2; cases hu2; exact ru
    refine ⟨_, rfl, wpAny_letOwnedTupleGo_enum (s := { s with heap := h', toks := tk + 1 }) ho fun h'' he' sb => ?_⟩
    have hT2 : h''.get? s.heap.objs.size = some { cls := .type "tuple", data := .seq #[.int i tk, u] } := (sb.2 _ (Nat.ne_of_gt hel)).trans hT
    have new : ObjOk X.prog X.w (upd H s.heap.objs.size (.frz { cls := .type "tuple", data := .seq #[.int i tk, u] } (.tup [.int (i : Nat), x]))) h'' s.heap.objs.size (.frz { cls := .type "tuple", data := .seq #[.int i tk, u] } (.tup [.int (i : Nat), x])) :=
      ⟨hT2, by show 2 ≤ sizeLine; decide, [.int i tk, u], .cons ⟨_, rfl⟩ (.cons ru .nil), ⟨_, hT2, rfl, _, rfl⟩⟩
    have I1 : Inv X pins σ (upd H s.heap.objs.size (.frz { cls := .type "tuple", data := .seq #[.int i tk, u] } (.tup [.int (i : Nat), x]))) { s with heap := h'', toks := tk + 1 } :=
      I.turnedNew (ch := [e, it]) (fun b ob hb q => (sb.2 b (fun z => hb (by simp [z]))).trans (hk b ob (fun z => hb (by simp [z])) (fun z => hb (by simp [z])) q)) hf (Nat.le_refl _) new
    refine ⟨.ref s.heap.objs.size, _, I1, rfl, ⟨_, x, _, rfl, I.hok.fresh (Nat.le_refl _), rfl, rfl, fun ys hy => by rw [sq_inj I hy hq]; exact hx⟩, ⟨⟨u, ?_⟩, hit'.1.at' fun o q => (sb.2 it (Ne.symm hei)).trans q⟩, fun c hb => ?_⟩
    · have e1 : ((i + 1 : Nat) : Int) = (i : Int) + 1 := by omega
      rw [e1]; exact he'
    · have hb' : c < s.heap.objs.size := by
        have e' : c = e ∨ c = it := by simpa using hb
        rcases e' with z | z
        · rw [z]; exact hel
        · obtain ⟨o, h1, _⟩ := hit.ob
          rw [z]; exact Heap.lt_size h1
      rw [upd_ne (Nat.ne_of_lt hb')]
      exact (hf c hb).1
  done := by
    intro X hP hw hK hc i pins s σ H E I hf st hg
    subst hP hw hK
    obtain ⟨⟨old, he⟩, hit⟩ := st
    obtain ⟨xs, hq, hx⟩ := hg
    obtain ⟨its, rv, p, hz⟩ := inv_sq I hq
    obtain ⟨f0, f1, f2, f3, f4, f5⟩ := hf it (by simp)
    have hl := rv.length
    have hai : a ≠ it := sq_ne_it p hit
    have hi : i = its.toArray.size := by rw [List.size_toArray]; omega
    refine wpAny_pyNext_enum_endD (draws_sq (show X.A.in1.handled = none from I.ok.hd hc) b it a hai its.toArray) he (by rw [← hi]; exact ⟨hit, p⟩) fun h' eb => ⟨rfl, I.turned (t' := s.toks) (fun b o hb q => eb b o hb q) f0 f1 f3 f4 f5⟩
  self := fun A i s Q E st h => let ⟨⟨_, he⟩, _⟩ := st; wpAny_pyIter_enum he h
/-- enumerate(v): its two new cells -/
theorem meets_enum_newB1 {v : Value} {o : Obj} {H : Heap → Prop} (B : Begins v o H) :
    Meets (Builtin.«enumerate.__new__» ⟨[.type "enumerate", v], []⟩) (fun _ R s => H s.heap ∧
      R (.ok (.ret (.ref (s.heap.push o).objs.size))) { s with heap := (s.heap.push o).push { cls := .type "enumerate", data := .fields #[.none, .bool false, .ref s.heap.objs.size, rawInt 0, .none, .none] } }) :=
  .of_wp fun prog w A R s h => by
    obtain ⟨hp, g, d, tk, os⟩ := s; obtain ⟨h1, h⟩ := h
    have hsub := sub_enumerate
    have q1 : ∀ {A' : Around} {E : Value → Shared → Prop} {Q : Value → Shared → Prop}, Q (.ref hp.objs.size) ⟨hp.push o, g, d, tk, os⟩ → wpAny (model prog w) A' (pyIter v) Q E ⟨hp, g, d, tk, os⟩ :=
      fun q => B.iter prog w _ _ ⟨hp, g, d, tk, os⟩ _ h1 q
    wp_walk using q1
    refine wpAny_stack_any fun st => wpAny_pure ?_
    split
    · rename_i c _ _ _ _ _
      cases (c == Value.type "enumerate")
      · wp_walk using q1
        exact ⟨_, rfl, h⟩
      · wp_walk using q1
        exact ⟨_, rfl, h⟩
    · wp_walk using q1
      exact ⟨_, rfl, h⟩
theorem enum_begins1 {prog : Program} {w : World} {A : Around} {E : Value → Shared → Prop} {s : Shared} {v : Value} {o : Obj} {H : Heap → Prop} {Q : Value → Shared → Prop} (B : Begins v o H) (h1 : H s.heap)
    (h : ∀ h', IsEnum h' (s.heap.objs.size + 1) s.heap.objs.size 0 .none → h'.get? s.heap.objs.size = some o → h'.objs.size = s.heap.objs.size + 2 →
      (∀ b o, s.heap.get? b = some o → h'.get? b = some o) → Q (.ref (s.heap.objs.size + 1)) { s with heap := h' }) :
    wpAny (model prog w) A (call (.type "enumerate") [v]) Q E s := by
  refine callType_new F.called_enumerate (by decide) (F.typeCall_enumerate_1 _) (F.newCall_enumerate_1 _) (fun obj => F.args_object_init_2 obj _) F.entry_enumerate_new
    (meets_enum_newB1 B) ⟨h1, ?_⟩
  have hz : (s.heap.push o).objs.size = s.heap.objs.size + 1 := Heap.size_push ..
  show _ ∧ _
  rw [hz]
  have he : IsEnum ((s.heap.push o).push { cls := .type "enumerate", data := .fields #[.none, .bool false, .ref s.heap.objs.size, rawInt 0, .none, .none] }) (s.heap.objs.size + 1) s.heap.objs.size 0 .none := by
    have := Heap.get?_push_size (s.heap.push o) (o := { cls := .type "enumerate", data := .fields #[.none, .bool false, .ref s.heap.objs.size, rawInt 0, .none, .none] }) rfl
    rw [hz] at this; exact this
  refine ⟨⟨_, he, rfl⟩, h _ he (Heap.get?_push_of_some _ (Heap.get?_push_size _ B.free)) (by rw [Heap.size_push, hz]) fun b o x => Heap.get?_push_of_some _ (Heap.get?_push_of_some _ x)⟩
def iEnumB (K : PySem.W.Frag) (ta : TA) : TI := fun σ H R => ta σ H fun vs H1 => ∃ b a xs, vs = [.ref a] ∧ Sq K H1 b a xs ∧ R (IteB K b a) H1
theorem pi_enumB {X : Cx} {e : Expr} {ta : TA} {p pos tpos : Pos} {elts : List Expr} {kk : Nat} (hg : Gl X "enumerate") (hm : X.mg "enumerate" = none) (ha : PA X [e] ta) (hs : starEach [e] X.env = [(false, eval e X.env)] := by rfl) :
    PI X (.Tuple elts kk tpos) (.Call (.Name "enumerate" p) [e] [] pos) (iEnumB X.K ta) := by
  refine ⟨fun pins s σ H R I h => ?_⟩
  refine Call_ (ld_blt I hg hm boot_enumerate (PyProof.Rows.callWith_type1 (thn (ha.run pos pins s σ H _ I h) fun us s1 ⟨vs, H1, I1, r1, b, a, xs, ex, hq, q⟩ => ?_) hs rfl))
  subst ex
  cases r1 with
  | cons r rr =>
    cases rr
    cases r
    obtain ⟨its, rv, p', hz⟩ := inv_sq I1 hq
    refine enum_begins1 (begins_sq b a its.toArray) p' fun h' he hit hsz hk => wpAny_pyIter_enum he ?_
    have I2 : Inv X pins σ H1 { s1 with heap := h' } := I1.kept (t' := s1.toks) hk
    refine ⟨s1.heap.objs.size + 1, [s1.heap.objs.size + 1, s1.heap.objs.size], _, _, H1, rfl, I2, turn_enumB b a (s1.heap.objs.size + 1) s1.heap.objs.size, ⟨⟨.none, he⟩, IsIt.new hit⟩, fun b hb => ?_, q⟩
    have e' : b = s1.heap.objs.size + 1 ∨ b = s1.heap.objs.size := by simpa using hb
    have hle : s1.heap.objs.size ≤ b := by
      rcases e' with z | z
      · rw [z]; exact Nat.le_add_right _ _
      · rw [z]; exact Nat.le_refl _
    exact I1.fpOk hle (I1.hok.fresh hle)

/-! ### zip -/
def ItzB (K : PySem.W.Frag) (b1 b2 : Bool) (a1 a2 : Addr) : It :=
  ⟨fun i H => ∃ (xs ys : List V) (x y : V), Sq K H b1 a1 xs ∧ Sq K H b2 a2 ys ∧ xs[i]? = some x ∧ ys[i]? = some y,
    fun i H v H' => ∃ T x y, ∃ o : Obj, v = .ref T ∧ H T = none ∧ o.dict = none ∧ H' = upd H T (.frz o (.tup [x, y])) ∧ (∀ xs, Sq K H b1 a1 xs → xs[i]? = some x) ∧ ∀ ys, Sq K H b2 a2 ys → ys[i]? = some y,
    fun i H => ∃ xs ys : List V, Sq K H b1 a1 xs ∧ Sq K H b2 a2 ys ∧ i ≤ xs.length ∧ i ≤ ys.length ∧ (i = xs.length ∨ i = ys.length)⟩
/-- the cells of the zip itself lie apart -/
structure ZipOwn (z TI TO i1 i2 : Addr) : Prop where
  TIz : TI ≠ z
  TOz : TO ≠ z
  TITO : TI ≠ TO
  i12 : i1 ≠ i2
theorem zip_sep {h : Heap} {z TI TO i1 i2 a1 a2 : Addr} {b1 b2 : Bool} {i : Nat} {xs ys : Array Value} {x y : Value} (D : ZipOwn z TI TO i1 i2) (hz : IsZip h z TI TO .none) (hTI : IsTupOf2 h TI (.ref i1) (.ref i2)) (hTO : IsTupOf2 h TO x y)
    (h1 : IsIt b1 h i1 a1 i) (h2 : IsIt b2 h i2 a2 i) (p1 : IsSq b1 h a1 xs) (p2 : IsSq b2 h a2 ys) (n1 : a1 ≠ TO) (n2 : a2 ≠ TO) : ZipSep2 z TI TO i1 i2 [i1, a1] [i2, a2] := by
  have zi1 : z ≠ i1 := it_ne_cls h1 hz (by show Value.type "zip" ≠ .type "tuple_iterator"; decide) (by show Value.type "zip" ≠ .type "list_iterator"; decide)
  have zi2 : z ≠ i2 := it_ne_cls h2 hz (by show Value.type "zip" ≠ .type "tuple_iterator"; decide) (by show Value.type "zip" ≠ .type "list_iterator"; decide)
  have za1 : a1 ≠ z := sq_ne_cls p1 hz (by show Value.type "zip" ≠ .type "tuple"; decide) (by show Value.type "zip" ≠ .type "list"; decide)
  have za2 : a2 ≠ z := sq_ne_cls p2 hz (by show Value.type "zip" ≠ .type "tuple"; decide) (by show Value.type "zip" ≠ .type "list"; decide)
  have t1 : TI ≠ i1 := it_ne_cls h1 hTI (by show Value.type "tuple" ≠ .type "tuple_iterator"; decide) (by show Value.type "tuple" ≠ .type "list_iterator"; decide)
  have t2 : TI ≠ i2 := it_ne_cls h2 hTI (by show Value.type "tuple" ≠ .type "tuple_iterator"; decide) (by show Value.type "tuple" ≠ .type "list_iterator"; decide)
  have o1 : TO ≠ i1 := it_ne_cls h1 hTO (by show Value.type "tuple" ≠ .type "tuple_iterator"; decide) (by show Value.type "tuple" ≠ .type "list_iterator"; decide)
  have o2 : TO ≠ i2 := it_ne_cls h2 hTO (by show Value.type "tuple" ≠ .type "tuple_iterator"; decide) (by show Value.type "tuple" ≠ .type "list_iterator"; decide)
  have c1 : a2 ≠ i1 := sq_ne_it p2 h1
  have c2 : a1 ≠ i2 := sq_ne_it p1 h2
  exact { TIz := D.TIz, TOz := D.TOz, TITO := D.TITO, TIi1 := t1, mem1 := by simp, zf1 := by simp [zi1, za1.symm], Tf1 := by simp [o1, n1.symm], TIi2 := t2, mem2 := by simp, zf2 := by simp [zi2, za2.symm], Tf2 := by simp [o2, n2.symm], sep1_2 := by simp [D.i12, c1.symm], sep2_1 := by simp [D.i12.symm, c2.symm] }
theorem turn_zipB {P : Program} {w : World} {K : PySem.W.Frag} {elts : List Expr} {kk : Nat} {tpos : Pos} (b1 b2 : Bool) (a1 a2 z TI TO i1 i2 : Addr) (D : ZipOwn z TI TO i1 i2) (n1 : a1 ≠ TO) (n2 : a2 ≠ TO) :
    Turn P w K (.Tuple elts kk tpos) (ItzB K b1 b2 a1 a2) [z, TI, TO, i1, i2] z (fun i h => IsZip h z TI TO .none ∧ IsTupOf2 h TI (.ref i1) (.ref i2) ∧ (∃ x y, IsTupOf2 h TO x y) ∧ IsIt b1 h i1 a1 i ∧ IsIt b2 h i2 a2 i) where
  mem := by simp
  obj := fun i h st c hc => by
    obtain ⟨hz, hTI, ⟨x, y, hTO⟩, h1, h2⟩ := st
    obtain ⟨o1, e1, _, d1⟩ := h1.ob
    obtain ⟨o2, e2, _, d2⟩ := h2.ob
    have e' : c = z ∨ c = TI ∨ c = TO ∨ c = i1 ∨ c = i2 := by simpa using hc
    rcases e' with q | q | q | q | q
    · rw [q]; exact ⟨_, hz, fun v q => nomatch q⟩
    · rw [q]; exact ⟨_, hTI, fun v q => nomatch q⟩
    · rw [q]; exact ⟨_, hTO, fun v q => nomatch q⟩
    · rw [q]; exact ⟨o1, e1, d1⟩
    · rw [q]; exact ⟨o2, e2, d2⟩
  keep := fun i h h' st k => by
    obtain ⟨hz, hTI, ⟨x, y, hTO⟩, h1, h2⟩ := st
    exact ⟨k z (by simp) _ hz, k TI (by simp) _ hTI, ⟨x, y, k TO (by simp) _ hTO⟩, h1.at' fun o q => k i1 (by simp) o q, h2.at' fun o q => k i2 (by simp) o q⟩
  item := by
    intro X hP hw hK hc i pins s σ H E I hf st hg
    subst hP hw hK
    obtain ⟨hz, hTI, ⟨x0, y0, hTO⟩, h1, h2⟩ := st
    obtain ⟨xs, ys, x, y, hqx, hqy, hx, hy⟩ := hg
    obtain ⟨its, rv, p, _⟩ := inv_sq I hqx
    obtain ⟨its2, rv2, p2, _⟩ := inv_sq I hqy
    have l1 := rv.length
    have l2 := rv2.length
    have lt1 : i < its.length := by have := (List.getElem?_eq_some_iff.mp hx).1; omega
    have lt2 : i < its2.length := by have := (List.getElem?_eq_some_iff.mp hy).1; omega
    have S := zip_sep D hz hTI hTO h1 h2 p p2 n1 n2
    have hh : X.A.in1.handled = none := I.ok.hd hc
    have hzl : z < s.heap.objs.size := Heap.lt_size hz
    refine wpAny_pyNext_zipD2_item S (draws_sq hh b1 i1 a1 (sq_ne_it p h1) its.toArray) (draws_sq hh b2 i2 a2 (sq_ne_it p2 h2) its2.toArray) hz hTI hTO ⟨h1, p⟩ ⟨h2, p2⟩ (by simpa using lt1) (by simpa using lt2) fun u u2 h' tk hu hu2 z' TO' h1' h2' hT hsz hk => ?_
    have ru : RelV x u := by
      obtain ⟨u', q1, q2⟩ := rv.get hx
      have q3 : its[i]? = some u := by simpa using hu
      rw [q1] at q3; cases q3; exact q2
    have ru2 : RelV y u2 := by
      obtain ⟨u', q1, q2⟩ := rv2.get hy
      have q3 : its2[i]? = some u2 := by simpa using hu2
      rw [q1] at q3; cases q3; exact q2
    refine ⟨_, rfl, wpAny_letOwnedTupleGo_zip (s := { s with heap := h', toks := tk }) z' fun h'' z'' sb => ?_⟩
    have hT2 : h''.get? s.heap.objs.size = some { cls := .type "tuple", data := .seq #[u, u2] } := (sb.2 _ (Nat.ne_of_gt hzl)).trans hT
    have new : ObjOk X.prog X.w (upd H s.heap.objs.size (.frz { cls := .type "tuple", data := .seq #[u, u2] } (.tup [x, y]))) h'' s.heap.objs.size (.frz { cls := .type "tuple", data := .seq #[u, u2] } (.tup [x, y])) :=
      ⟨hT2, by show 2 ≤ sizeLine; decide, [u, u2], .cons ru (.cons ru2 .nil), ⟨_, hT2, rfl, _, rfl⟩⟩
    have I1 : Inv X pins σ (upd H s.heap.objs.size (.frz { cls := .type "tuple", data := .seq #[u, u2] } (.tup [x, y]))) { s with heap := h'', toks := tk } :=
      I.turnedNew (t' := tk) (ch := [z, TI, TO, i1, i2]) (fun c o hb q => (sb.2 c (fun q' => hb (by simp [q']))).trans (hk c o (fun q' => hb (by simp [q'])) (fun q' => hb (by simp [q'])) (fun q' => hb (by simp [q'])) (fun q' => hb (by simp [q'])) q)) hf (Nat.le_refl _) new
    refine ⟨.ref s.heap.objs.size, _, I1, rfl, ⟨_, x, y, _, rfl, I.hok.fresh (Nat.le_refl _), rfl, rfl, fun l hl => by rw [sq_inj I hl hqx]; exact hx, fun l hl => by rw [sq_inj I hl hqy]; exact hy⟩, ⟨z'', ?_, ⟨u, u2, ?_⟩, ?_, ?_⟩, fun c hcm => ?_⟩
    · exact (sb.2 _ D.TIz).trans (hk _ _ D.TIz D.TITO S.TIi1 S.TIi2 hTI)
    · exact (sb.2 _ D.TOz).trans TO'
    · exact h1'.1.at' fun o q => (sb.2 _ S.zi1.symm).trans q
    · exact h2'.1.at' fun o q => (sb.2 _ S.zi2.symm).trans q
    · have hlt : c < s.heap.objs.size := by
        have e' : c = z ∨ c = TI ∨ c = TO ∨ c = i1 ∨ c = i2 := by simpa using hcm
        rcases e' with q | q | q | q | q
        · rw [q]; exact hzl
        · rw [q]; exact Heap.lt_size hTI
        · rw [q]; exact Heap.lt_size hTO
        · obtain ⟨_, e1, _⟩ := h1.ob; rw [q]; exact Heap.lt_size e1
        · obtain ⟨_, e2, _⟩ := h2.ob; rw [q]; exact Heap.lt_size e2
      rw [upd_ne (Nat.ne_of_lt hlt)]
      exact (hf c hcm).1
  done := by
    intro X hP hw hK hc i pins s σ H E I hf st hg
    subst hP hw hK
    obtain ⟨hz, hTI, ⟨x0, y0, hTO⟩, h1, h2⟩ := st
    obtain ⟨xs, ys, hqx, hqy, g1, g2, hend⟩ := hg
    obtain ⟨its, rv, p, _⟩ := inv_sq I hqx
    obtain ⟨its2, rv2, p2, _⟩ := inv_sq I hqy
    have l1 := rv.length
    have l2 := rv2.length
    have S := zip_sep D hz hTI hTO h1 h2 p p2 n1 n2
    have hh : X.A.in1.handled = none := I.ok.hd hc
    exact wpAny_pyNext_zipD2_end S (draws_sq hh b1 i1 a1 (sq_ne_it p h1) its.toArray) (draws_sq hh b2 i2 a2 (sq_ne_it p2 h2) its2.toArray) hz hTI hTO ⟨h1, p⟩ ⟨h2, p2⟩ (by rw [List.size_toArray]; omega) (by rw [List.size_toArray]; omega) (by rw [List.size_toArray, List.size_toArray]; omega) fun h' tk hk => ⟨rfl, I.turnedL (t' := tk) (ch := [z, TI, TO, i1, i2]) (fun c o hb q =>
      hk c o (fun q' => hb (by simp [q'])) (fun q' => hb (by simp [q'])) (fun q' => hb (by simp [q'])) (fun q' => hb (by simp [q'])) q) hf⟩
  self := fun A i s Q E st h => wpAny_pyIter_zip st.1 h
def iZipB (K : PySem.W.Frag) (ta : TA) : TI := fun σ H R => ta σ H fun vs H1 => ∃ b1 b2 a1 a2 xs ys, vs = [.ref a1, .ref a2] ∧ Sq K H1 b1 a1 xs ∧ Sq K H1 b2 a2 ys ∧ R (ItzB K b1 b2 a1 a2) H1
theorem pi_zipB {X : Cx} {e e2 : Expr} {ta : TA} {p pos tpos : Pos} {elts : List Expr} {kk : Nat} (hg : Gl X "zip") (hm : X.mg "zip" = none) (ha : PA X [e, e2] ta)
    (hs : starEach [e, e2] X.env = (false, eval e X.env) :: starEach [e2] X.env := by rfl) (hpl : (backTo pos (starEach [e2] X.env)).any (·.1) = false := by rfl) :
    PI X (.Tuple elts kk tpos) (.Call (.Name "zip" p) [e, e2] [] pos) (iZipB X.K ta) := by
  refine ⟨fun pins s σ H R I h => ?_⟩
  refine Call_ (ld_blt I hg hm PyProof.Rows.boot_zip (PyProof.Rows.callWith_type1 (thn (ha.run pos pins s σ H _ I h) fun us s1 ⟨vs, H1, I1, r1, b1, b2, a1, a2, xs, ys, ex, hqx, hqy, q⟩ => ?_) hs hpl))
  subst ex
  cases r1 with
  | cons r rr =>
    cases rr with
    | cons r' rr =>
      cases rr
      cases r
      cases r'
      obtain ⟨its, rv, p1, _⟩ := inv_sq I1 hqx
      obtain ⟨its2, rv2, p2, _⟩ := inv_sq I1 hqy
      obtain ⟨o1, ho1, _⟩ := p1.ob
      obtain ⟨o2, ho2, _⟩ := p2.ob
      refine zip_begins2 (begins_sq b1 a1 its.toArray) (begins_sq b2 a2 its2.toArray) p1 p2 fun h' hz hTI hTO h1 h2 hsz hk => wpAny_pyIter_zip hz ?_
      have I2 : Inv X pins σ H1 { s1 with heap := h' } := I1.kept (t' := s1.toks) hk
      refine ⟨s1.heap.objs.size + 4, [s1.heap.objs.size + 4, s1.heap.objs.size + 2, s1.heap.objs.size + 3, s1.heap.objs.size, s1.heap.objs.size + 1], _, _, H1, rfl, I2, turn_zipB b1 b2 a1 a2 _ _ _ _ _ ⟨?_, ?_, ?_, ?_⟩ ?_ ?_, ⟨hz, hTI, ⟨_, _, hTO⟩, IsIt.new h1, IsIt.new h2⟩, fun c hcm => ?_, q⟩
      · show (s1.heap.objs.size + 2 : Nat) ≠ s1.heap.objs.size + 4; omega
      · show (s1.heap.objs.size + 3 : Nat) ≠ s1.heap.objs.size + 4; omega
      · show (s1.heap.objs.size + 2 : Nat) ≠ s1.heap.objs.size + 3; omega
      · show (s1.heap.objs.size : Nat) ≠ s1.heap.objs.size + 1; omega
      · exact Nat.ne_of_lt (Nat.lt_of_lt_of_le (Heap.lt_size ho1) (Nat.le_add_right _ 3))
      · exact Nat.ne_of_lt (Nat.lt_of_lt_of_le (Heap.lt_size ho2) (Nat.le_add_right _ 3))
      · have e' : c = s1.heap.objs.size + 4 ∨ c = s1.heap.objs.size + 2 ∨ c = s1.heap.objs.size + 3 ∨ c = s1.heap.objs.size ∨ c = s1.heap.objs.size + 1 := by simpa using hcm
        have hle : s1.heap.objs.size ≤ c := by
          rcases e' with z | z | z | z | z
          · rw [z]; exact Nat.le_add_right _ _
          · rw [z]; exact Nat.le_add_right _ _
          · rw [z]; exact Nat.le_add_right _ _
          · rw [z]; exact Nat.le_refl _
          · rw [z]; exact Nat.le_add_right _ _
        exact I1.fpOk hle (I1.hok.fresh hle)
end Zd
end
section
/-! Zd 8: sources of loops; comprehensions. -/
namespace Zd
open PySem PySem.Spec PyProof.Rows L2
set_option autoImplicit false
section
variable {X : Cx} {T : Tab} {W : WX} {pos : Pos}
theorem PI.ors {tg e : Expr} {ι : Sort _} {t : ι → TI} (h : ∀ i, PI X tg e (t i)) : PI X tg e (fun σ H Q => ∃ i, t i σ H Q) := ⟨fun pins s σ H Q I ⟨i, q⟩ => (h i).run pins s σ H Q I q⟩
theorem walks_list {K : PySem.W.Frag} {G : Hp} {a : Addr} {xs : List V} {ds : List D} (h : SqL K G a xs) (r : RzL K T G xs ds) : Walks_ K T (Itl K a) G ds := fun i G1 H s1 s2 => by
  have hq : SqL K H a xs := (s1.trans s2).seq h
  refine ⟨fun d hd => ?_, fun e => ⟨xs, hq, by rw [e, r.len]; exact Nat.le_refl _⟩⟩
  obtain ⟨v, hv, rz⟩ := r.get hd
  refine ⟨⟨xs, v, hq, hv⟩, fun x H' y => ?_⟩
  obtain ⟨rfl, y⟩ := y
  have := y xs hq
  rw [hv] at this; cases this
  exact ⟨G1, New.refl s2, rz.mono s1⟩
theorem walks_tup {K : PySem.W.Frag} {G : Hp} {a : Addr} {xs : List V} {ds : List D} (h : SqT K G a xs) (r : RzL K T G xs ds) : Walks_ K T (Itt K a) G ds := fun i G1 H s1 s2 => by
  have hq : SqT K H a xs := Same.tup (s1.trans s2) h
  refine ⟨fun d hd => ?_, fun e => ⟨xs, hq, by rw [e, r.len]; exact Nat.le_refl _⟩⟩
  obtain ⟨v, hv, rz⟩ := r.get hd
  refine ⟨⟨xs, v, hq, hv⟩, fun x H' y => ?_⟩
  obtain ⟨rfl, y⟩ := y
  have := y xs hq
  rw [hv] at this; cases this
  exact ⟨G1, New.refl s2, rz.mono s1⟩
/-- lo, lo + c, .. n of them -/
def rngL (lo c : Int) (n : Nat) : List D := (List.range n).map fun i => .int (lo + (i : Nat) * c)
theorem rngL_get {lo c : Int} {n i : Nat} {d : D} (h : (rngL lo c n)[i]? = some d) : i < n ∧ d = .int (lo + (i : Nat) * c) := by
  unfold rngL at h
  rw [List.getElem?_map] at h
  by_cases hi : i < n
  · rw [List.getElem?_range hi] at h
    cases h
    exact ⟨hi, rfl⟩
  · rw [List.getElem?_eq_none (by simpa using hi)] at h; cases h
theorem rngL_len {lo c : Int} {n : Nat} : (rngL lo c n).length = n := by unfold rngL; rw [List.length_map, List.length_range]
theorem walks_range {K : PySem.W.Frag} {G : Hp} {lo : Int} {n : Nat} : Walks_ K T (Itr lo n) G (rngL lo 1 n) := fun i G1 H s1 s2 => by
  refine ⟨fun d hd => ?_, fun e => by rw [e, rngL_len]; exact Nat.le_refl _⟩
  obtain ⟨hi, rfl⟩ := rngL_get hd
  refine ⟨hi, fun x H' y => ?_⟩
  obtain ⟨rfl, rfl⟩ := y
  rw [Int.mul_one]
  exact ⟨G1, New.refl s2, Rz.int_⟩
theorem walks_rangeC {K : PySem.W.Frag} {G : Hp} {lo c : Int} {n : Nat} : Walks_ K T (Itc lo c n) G (rngL lo c n) := fun i G1 H s1 s2 => by
  refine ⟨fun d hd => ?_, fun e => by rw [e, rngL_len]; exact Nat.le_refl _⟩
  obtain ⟨hi, rfl⟩ := rngL_get hd
  refine ⟨hi, fun x H' y => ?_⟩
  obtain ⟨rfl, rfl⟩ := y
  exact ⟨G1, New.refl s2, Rz.int_⟩
def enumD : Nat → List D → List D
  | _, [] => []
  | k, d :: ds => .tup [.int k, d] :: enumD (k + 1) ds
theorem enumD_len : ∀ (k : Nat) (ds : List D), (enumD k ds).length = ds.length
  | _, [] => rfl
  | k, d :: ds => by rw [enumD, List.length_cons, List.length_cons, enumD_len]
theorem enumD_get : ∀ {k : Nat} {ds : List D} {i : Nat} {d : D}, (enumD k ds)[i]? = some d → ∃ x, ds[i]? = some x ∧ d = .tup [.int ((k + i : Nat) : Int), x]
  | k, [], i, d, h => by simp [enumD] at h
  | k, x :: ds, 0, d, h => by
    simp [enumD] at h
    exact ⟨x, rfl, by rw [← h]; rfl⟩
  | k, x :: ds, i + 1, d, h => by
    rw [enumD, List.getElem?_cons_succ] at h
    obtain ⟨y, h1, h2⟩ := enumD_get h
    exact ⟨y, by rw [List.getElem?_cons_succ]; exact h1, by rw [h2, show k + 1 + i = k + (i + 1) by omega]⟩
theorem pair_new {K : PySem.W.Frag} {G H : Hp} {p : Addr} {x y : V} {a b : D} (s : Same G H) (hp : H p = none) (hx : Rz K T G x a) (hy : Rz K T G y b) {o : Obj} (ho : o.dict = none) : New G H (upd G p (.frz o (.tup [x, y]))) (upd H p (.frz o (.tup [x, y]))) ∧ Rz K T (upd G p (.frz o (.tup [x, y]))) (.ref p) (.tup [a, b]) := by
  have n := New.one (o := .frz o (.tup [x, y])) s hp
  exact ⟨n, Rz.tup_ (.inl ⟨o, upd_same, ho⟩) ((RzL.cons hx (RzL.cons hy RzL.nil)).mono n.gro)⟩
theorem walks_enum {K : PySem.W.Frag} {G : Hp} {b : Bool} {a : Addr} {xs : List V} {ds : List D} (h : Sq K G b a xs) (r : RzL K T G xs ds) : Walks_ K T (IteB K b a) G (enumD 0 ds) := fun i G1 H s1 s2 => by
  have hq : Sq K H b a xs := h.mono (s1.trans s2)
  refine ⟨fun d hd => ?_, fun e => ⟨xs, hq, by rw [e, enumD_len, r.len]⟩⟩
  obtain ⟨x, hx, rfl⟩ := enumD_get hd
  obtain ⟨v, hv, rz⟩ := r.get hx
  refine ⟨⟨xs, v, hq, hv⟩, fun u H' y => ?_⟩
  obtain ⟨p, w, o, rfl, hp, ho, rfl, y⟩ := y
  have := y xs hq
  rw [hv] at this; cases this
  rw [Nat.zero_add]
  obtain ⟨n, z⟩ := pair_new (K := K) (T := T) (x := .int (i : Nat)) (a := .int (i : Nat)) s2 hp Rz.int_ (rz.mono s1) ho
  exact ⟨_, n, z⟩
def zipD : List D → List D → List D
  | a :: as, b :: bs => .tup [a, b] :: zipD as bs
  | _, _ => []
theorem zipD_len : ∀ (as bs : List D), (zipD as bs).length = min as.length bs.length
  | [], _ => by simp [zipD]
  | _ :: _, [] => by simp [zipD]
  | a :: as, b :: bs => by rw [zipD, List.length_cons, List.length_cons, List.length_cons, zipD_len]; omega
theorem zipD_get : ∀ {as bs : List D} {i : Nat} {d : D}, (zipD as bs)[i]? = some d → ∃ x y, as[i]? = some x ∧ bs[i]? = some y ∧ d = .tup [x, y]
  | [], _, i, d, h => by simp [zipD] at h
  | _ :: _, [], i, d, h => by simp [zipD] at h
  | a :: as, b :: bs, 0, d, h => by
    simp [zipD] at h
    exact ⟨a, b, rfl, rfl, h.symm⟩
  | a :: as, b :: bs, i + 1, d, h => by
    rw [zipD, List.getElem?_cons_succ] at h
    obtain ⟨x, y, h1, h2, h3⟩ := zipD_get h
    exact ⟨x, y, by rw [List.getElem?_cons_succ]; exact h1, by rw [List.getElem?_cons_succ]; exact h2, h3⟩
theorem walks_zip {K : PySem.W.Frag} {G : Hp} {b1 b2 : Bool} {a1 a2 : Addr} {xs ys : List V} {ds es : List D} (h : Sq K G b1 a1 xs) (h2 : Sq K G b2 a2 ys) (r : RzL K T G xs ds) (r2 : RzL K T G ys es) : Walks_ K T (ItzB K b1 b2 a1 a2) G (zipD ds es) := fun i G1 H s1 s2 => by
  have hq : Sq K H b1 a1 xs := h.mono (s1.trans s2)
  have hq2 : Sq K H b2 a2 ys := h2.mono (s1.trans s2)
  refine ⟨fun d hd => ?_, fun e => ⟨xs, ys, hq, hq2, ?_, ?_, ?_⟩⟩
  · obtain ⟨x, y, hx, hy, rfl⟩ := zipD_get hd
    obtain ⟨v, hv, rz⟩ := r.get hx
    obtain ⟨w, hw, rz2⟩ := r2.get hy
    refine ⟨⟨xs, ys, v, w, hq, hq2, hv, hw⟩, fun u H' y => ?_⟩
    obtain ⟨p, v', w', o, rfl, hp, ho, rfl, y1, y2⟩ := y
    have q1 := y1 xs hq
    have q2 := y2 ys hq2
    rw [hv] at q1; cases q1
    rw [hw] at q2; cases q2
    obtain ⟨n, z⟩ := pair_new (K := K) (T := T) s2 hp (rz.mono s1) (rz2.mono s1) ho
    exact ⟨_, n, z⟩
  · rw [e, zipD_len, r.len]; exact Nat.min_le_left _ _
  · rw [e, zipD_len, r2.len]; exact Nat.min_le_right _ _
  · rw [e, zipD_len, r.len, r2.len]; omega

/-! ### sources -/
def iSeq (d : DEn) : DIn := fun ρ => (d ρ).bind fun p => match seqOf p.2 with
  | some ds => .ok (p.1, ds)
  | none => .bad
theorem pi_both {K : PySem.W.Frag} {tg e : Expr} {t : TE} (hK : X.K = K) (h1 : PI X tg e (iTup K t)) (h2 : PI X tg e (iList K t)) (b : Bool) : PI X tg e (if b = true then iTup K t else iList K t) := by
  cases b
  · exact h2
  · exact h1
theorem di_seq {tg e : Expr} {d : DEn} (h : DE X T W e d) : DI X T W tg e (iSeq d) := by
  refine PI.imp (PI.ors (t := fun b : Bool => if b = true then iTup X.K (tE X.K T W d) else iList X.K (tE X.K T W d)) (pi_both rfl (pi_tup h) (pi_list h))) fun σ H Q q => ?_
  obtain ⟨τ, ρ, G, k, q⟩ := q
  cases e1 : d ρ with
  | bad => unfold iSeq at q; rw [e1] at q; exact q.elim
  | ex ρ2 x =>
    refine ⟨false, τ, ρ, G, k, ?_⟩
    unfold iSeq at q
    rw [e1] at q ⊢
    exact q
  | ok p =>
    have e2 := e1
    unfold iSeq at q
    rw [e1] at q
    dsimp only [R.bind_ok] at q
    split at q
    · rename_i ds hs
      obtain ⟨ρ1, r⟩ := p
      cases r with
      | tup es =>
        cases hs
        refine ⟨true, τ, ρ, G, k, ?_⟩
        rw [e1]
        intro G1 H1 k1 f1 v rv
        dsimp only at rv k1 f1 q
        rw [Rz] at rv
        obtain ⟨a, xs, rfl, h1, h2⟩ := rv
        exact ⟨a, rfl, ⟨xs, Same.tup k1.sub h1.t⟩, q G1 H1 k1 f1 _ (walks_tup h1.t h2)⟩
      | lst es =>
        cases hs
        refine ⟨false, τ, ρ, G, k, ?_⟩
        rw [e1]
        intro G1 H1 k1 f1 v rv
        dsimp only at rv k1 f1 q
        rw [Rz] at rv
        obtain ⟨a, xs, rfl, h1, h2⟩ := rv
        exact ⟨a, rfl, ⟨xs, SqL.of (k1.sub _ _ h1)⟩, q G1 H1 k1 f1 _ (walks_list (SqL.of h1) h2)⟩
      | frz es =>
        cases hs
        refine ⟨false, τ, ρ, G, k, ?_⟩
        rw [e1]
        intro G1 H1 k1 f1 v rv
        dsimp only at rv k1 f1 q
        rw [Rz] at rv
        obtain ⟨a, xs, rfl, h1, h2⟩ := rv
        exact ⟨a, rfl, ⟨xs, k1.sub.seq h1⟩, q G1 H1 k1 f1 _ (walks_list h1 h2)⟩
      | _ => cases hs
    · exact q.elim
def near (i : Int) : Bool := decide (-1000000 ≤ i) && decide (i ≤ 1000000)
theorem near_of {i : Int} (h : near i = true) : -(2 ^ 62) ≤ i ∧ i < 2 ^ 62 := by
  simp only [near, Bool.and_eq_true, decide_eq_true_eq] at h
  omega
def rng1 : List D → Option (List D)
  | [.int j] => if near j = true then some (rngL 0 1 j.toNat) else none
  | _ => none
def rng2 : List D → Option (List D)
  | [.int i, .int j] => if near i = true ∧ near j = true then some (rngL i 1 (j - i).toNat) else none
  | _ => none
def rng3 : List D → Option (List D)
  | [.int i, .int j, .int c] => if c ≠ 0 ∧ c.natAbs < 1073741824 ∧ Builtin.Range.small i j c = true ∧ Builtin.Range.rangeSize i j c = ((Builtin.Range.rangeSize i j c).toNat : Int) then some (rngL i c (Builtin.Range.rangeSize i j c).toNat) else none
  | _ => none
def iRes (f : List D → Option (List D)) (a : DAn) : DIn := fun ρ => (a ρ).bind fun p => match (resAll p.1 p.2).bind f with
  | some ds => .ok (p.1, ds)
  | none => .bad
theorem RbL.one {K : PySem.W.Frag} {G H : Hp} {vs : List V} {d : D} (h : RbL K T G H vs [d]) : ∃ v, vs = [v] ∧ Rb K T G H v d := by
  match vs, h with
  | [v], h => exact ⟨v, rfl, h.1⟩
theorem RbL.two {K : PySem.W.Frag} {G H : Hp} {vs : List V} {d e : D} (h : RbL K T G H vs [d, e]) : ∃ v w, vs = [v, w] ∧ Rb K T G H v d ∧ Rb K T G H w e := by
  match vs, h with
  | [v, w], h => exact ⟨v, w, rfl, h.1, h.2.1⟩
theorem RbL.three {K : PySem.W.Frag} {G H : Hp} {vs : List V} {d e f : D} (h : RbL K T G H vs [d, e, f]) : ∃ v w u, vs = [v, w, u] ∧ Rb K T G H v d ∧ Rb K T G H w e ∧ Rb K T G H u f := by
  match vs, h with
  | [v, w, u], h => exact ⟨v, w, u, rfl, h.1, h.2.1, h.2.2.1⟩
theorem iRes_of {K : PySem.W.Frag} {f : List D → Option (List D)} {a : DAn} {σ : L2.St} {H : Hp} {Q : It → Hp → Prop} (q : tI K T W (iRes f a) σ H Q) :
    tA K T W a σ H fun vs H1 => ∃ (G : Hp) (ds items : List D), Same G H1 ∧ RbL K T G H1 vs ds ∧ f ds = some items ∧ ∀ J, Walks_ K T J G items → Q J H1 := by
  obtain ⟨τ, ρ, G, k, q⟩ := q
  refine ⟨τ, ρ, G, k, (Out.bind0 q).imp fun ρ1 ops G1 H1 k1 fr1 q1 vs rvs fvs => ?_⟩
  dsimp only at q1
  split at q1
  · rename_i items h1
    cases h2 : resAll ρ1 ops with
    | none => rw [h2] at h1; cases h1
    | some ds =>
      rw [h2] at h1
      exact ⟨G1, ds, items, k1.sub, k1.resolveAll rvs h2, h1, fun J w => q1 G1 H1 k1 fr1 J w⟩
  · exact q1.elim
theorem di_range1 {tg a : Expr} {da : DAn} {p : Pos} (ha : DA X T W [a] da) (hm : X.mg "range" = none) (hg : Gl X "range" := by rfl) (hs : starEach [a] X.env = [(false, eval a X.env)] := by rfl) : DI X T W tg (.Call (.Name "range" p) [a] [] pos) (iRes rng1 da) := by
  refine PI.imp (pi_range1 hg hm ha hs) fun σ H Q q => ?_
  obtain ⟨τ, ρ, G, k, q⟩ := iRes_of q
  refine ⟨τ, ρ, G, k, q.imp fun ρ1 ops G1 H1 k1 fr1 q1 vs rvs fvs => ?_⟩
  obtain ⟨G2, ds, items, s, rb, e, q2⟩ := q1 vs rvs fvs
  unfold rng1 at e
  split at e
  · rename_i j
    obtain ⟨v, rfl, r⟩ := rb.one
    split at e
    · rename_i hj
      cases e
      have := near_of hj
      exact ⟨j, by rw [r.int], this.1, this.2, q2 _ walks_range⟩
    · cases e
  · cases e
theorem di_range2 {tg a b : Expr} {da : DAn} {p : Pos} (ha : DA X T W [a, b] da) (hm : X.mg "range" = none) (hg : Gl X "range" := by rfl) (hs : starEach [a, b] X.env = [(false, eval a X.env), (false, eval b X.env)] := by rfl) (hs2 : starEach [b] X.env = [(false, eval b X.env)] := by rfl) :
    DI X T W tg (.Call (.Name "range" p) [a, b] [] pos) (iRes rng2 da) := by
  refine PI.imp (pi_range2 hg hm ha hs hs2) fun σ H Q q => ?_
  obtain ⟨τ, ρ, G, k, q⟩ := iRes_of q
  refine ⟨τ, ρ, G, k, q.imp fun ρ1 ops G1 H1 k1 fr1 q1 vs rvs fvs => ?_⟩
  obtain ⟨G2, ds, items, s, rb, e, q2⟩ := q1 vs rvs fvs
  unfold rng2 at e
  split at e
  · rename_i i j
    obtain ⟨v, w, rfl, r, r2⟩ := rb.two
    split at e
    · rename_i hj
      cases e
      have h1 := near_of hj.1
      have h2 := near_of hj.2
      exact ⟨i, j, by rw [r.int, r2.int], ⟨h1.1, h1.2, h2.1, h2.2⟩, q2 _ walks_range⟩
    · cases e
  · cases e
def iVals (f : List D → Option (List D)) (a : DAn) : DIn := fun ρ => (a ρ).bind fun p => match (vals p.2).bind f with
  | some ds => .ok (p.1, ds)
  | none => .bad
theorem RzL.one {K : PySem.W.Frag} {G : Hp} {vs : List V} {d : D} (h : RzL K T G vs [d]) : ∃ v, vs = [v] ∧ Rz K T G v d := by
  obtain ⟨v, us, rfl, h1, h2⟩ := RzL.cons_inv h
  cases RzL.nil_inv h2
  exact ⟨v, rfl, h1⟩
theorem RzL.two {K : PySem.W.Frag} {G : Hp} {vs : List V} {d e : D} (h : RzL K T G vs [d, e]) : ∃ v w, vs = [v, w] ∧ Rz K T G v d ∧ Rz K T G w e := by
  obtain ⟨v, us, rfl, h1, h2⟩ := RzL.cons_inv h
  obtain ⟨w, rfl, h3⟩ := RzL.one h2
  exact ⟨v, w, rfl, h1, h3⟩
theorem iVals_of {K : PySem.W.Frag} {f : List D → Option (List D)} {a : DAn} {σ : L2.St} {H : Hp} {Q : It → Hp → Prop} (q : tI K T W (iVals f a) σ H Q) :
    tA K T W a σ H fun vs H1 => ∃ (G : Hp) (ds items : List D), Same G H1 ∧ RzL K T G vs ds ∧ f ds = some items ∧ ∀ J, Walks_ K T J G items → Q J H1 := by
  obtain ⟨τ, ρ, G, k, q⟩ := q
  refine ⟨τ, ρ, G, k, (Out.bind0 q).imp fun ρ1 ops G1 H1 k1 fr1 q1 vs rvs fvs => ?_⟩
  dsimp only at q1
  split at q1
  · rename_i items h1
    cases h2 : vals ops with
    | none => rw [h2] at h1; cases h1
    | some ds =>
      rw [h2] at h1
      exact ⟨G1, ds, items, k1.sub, rz_vals rvs h2, h1, fun J w => q1 G1 H1 k1 fr1 J w⟩
  · exact q1.elim
def isSq : D → Option (List D)
  | .tup es => some es
  | .lst es => some es
  | .frz es => some es
  | _ => none
theorem Rz.sq {K : PySem.W.Frag} {G : Hp} {v : V} {d : D} {es : List D} (h : Rz K T G v d) (e : isSq d = some es) : ∃ b a xs, v = V.ref a ∧ Sq K G b a xs ∧ RzL K T G xs es := by
  cases d with
  | tup ds => cases e; rw [Rz] at h; obtain ⟨a, xs, rfl, h1, h2⟩ := h; exact ⟨true, a, xs, rfl, h1.t, h2⟩
  | lst ds => cases e; rw [Rz] at h; obtain ⟨a, xs, rfl, h1, h2⟩ := h; exact ⟨false, a, xs, rfl, SqL.of h1, h2⟩
  | frz ds => cases e; rw [Rz] at h; obtain ⟨a, xs, rfl, h1, h2⟩ := h; exact ⟨false, a, xs, rfl, h1, h2⟩
  | _ => cases e
def enum1 : List D → Option (List D)
  | [d] => (isSq d).map (enumD 0)
  | _ => none
def zip2 : List D → Option (List D)
  | [d, e] => (isSq d).bind fun xs => (isSq e).map (zipD xs)
  | _ => none
theorem di_enum {e : Expr} {da : DAn} {p tpos : Pos} {elts : List Expr} {kk : Nat} (ha : DA X T W [e] da) (hm : X.mg "enumerate" = none) (hg : Gl X "enumerate" := by rfl) (hs : starEach [e] X.env = [(false, eval e X.env)] := by rfl) :
    DI X T W (.Tuple elts kk tpos) (.Call (.Name "enumerate" p) [e] [] pos) (iVals enum1 da) := by
  refine PI.imp (pi_enumB hg hm ha hs) fun σ H Q q => ?_
  obtain ⟨τ, ρ, G, k, q⟩ := iVals_of q
  refine ⟨τ, ρ, G, k, q.imp fun ρ1 ops G1 H1 k1 fr1 q1 vs rvs fvs => ?_⟩
  obtain ⟨G2, ds, items, s, rb, e, q2⟩ := q1 vs rvs fvs
  unfold enum1 at e
  split at e
  · rename_i d
    obtain ⟨v, rfl, r⟩ := rb.one
    cases h : isSq d with
    | none => rw [h] at e; cases e
    | some es =>
      rw [h] at e; cases e
      obtain ⟨b, a, xs, rfl, h1, h2⟩ := r.sq h
      exact ⟨b, a, xs, rfl, h1.mono s, q2 _ (walks_enum h1 h2)⟩
  · cases e
theorem di_zip {e e2 : Expr} {da : DAn} {p tpos : Pos} {elts : List Expr} {kk : Nat} (ha : DA X T W [e, e2] da) (hm : X.mg "zip" = none) (hg : Gl X "zip" := by rfl)
    (hs : starEach [e, e2] X.env = (false, eval e X.env) :: starEach [e2] X.env := by rfl) (hpl : (backTo pos (starEach [e2] X.env)).any (·.1) = false := by rfl) :
    DI X T W (.Tuple elts kk tpos) (.Call (.Name "zip" p) [e, e2] [] pos) (iVals zip2 da) := by
  refine PI.imp (pi_zipB hg hm ha hs hpl) fun σ H Q q => ?_
  obtain ⟨τ, ρ, G, k, q⟩ := iVals_of q
  refine ⟨τ, ρ, G, k, q.imp fun ρ1 ops G1 H1 k1 fr1 q1 vs rvs fvs => ?_⟩
  obtain ⟨G2, ds, items, s, rb, e, q2⟩ := q1 vs rvs fvs
  unfold zip2 at e
  split at e
  · rename_i d d'
    obtain ⟨v, w, rfl, r, r2⟩ := rb.two
    cases h : isSq d with
    | none => rw [h] at e; cases e
    | some es =>
      cases h' : isSq d' with
      | none => rw [h, h'] at e; cases e
      | some es' =>
        rw [h, h'] at e; cases e
        obtain ⟨b, a, xs, rfl, h1, h2⟩ := r.sq h
        obtain ⟨b', a', xs', rfl, h1', h2'⟩ := r2.sq h'
        exact ⟨b, b', a, a', xs, xs', rfl, h1.mono s, h1'.mono s, q2 _ (walks_zip h1 h1' h2 h2')⟩
  · cases e
end
end Zd
end
section
/-! Zd 9: list comprehensions. -/
namespace Zd
open PySem PySem.Spec PyProof.Rows L2
set_option autoImplicit false
def wipeE (ρ : Env) : List Nat → Env
  | [] => ρ
  | v :: vs => (wipeE ρ vs).set v none
theorem wipeE_len {ρ : Env} : ∀ {vs : List Nat}, (wipeE ρ vs).length = ρ.length
  | [] => rfl
  | v :: vs => by unfold wipeE; rw [List.length_set, wipeE_len]
theorem wipeE_some {ρ : Env} {i : Nat} {b : B} : ∀ {vs : List Nat}, (wipeE ρ vs)[i]? = some (some b) → ρ[i]? = some (some b) ∧ i ∉ vs
  | [], h => ⟨h, by simp⟩
  | v :: vs, h => by
    unfold wipeE at h
    by_cases hi : v = i
    · subst hi
      by_cases hv : v < (wipeE ρ vs).length
      · rw [List.getElem?_set_self hv] at h; cases h
      · rw [List.getElem?_eq_none (by simpa using hv)] at h; cases h
    · rw [List.getElem?_set_ne hi] at h
      obtain ⟨h1, h2⟩ := wipeE_some h
      exact ⟨h1, by simp only [List.mem_cons, not_or]; exact ⟨fun e => hi e.symm, h2⟩⟩
theorem wipe_get {σ : L2.St} {i : Nat} : ∀ {vs : List Nat}, i ∉ vs → (L2.wipe σ vs)[i]? = σ[i]?
  | [], h => rfl
  | v :: vs, h => by
    unfold wipe
    rw [List.mem_cons, not_or] at h
    rw [List.getElem?_set_ne (fun e => h.1 e.symm), wipe_get h.2]
theorem wipe_in {σ : L2.St} {i : Nat} : ∀ {vs : List Nat}, i ∈ vs → (L2.wipe σ vs)[i]? = if i < σ.length then some none else none
  | v :: vs, h => by
    unfold wipe
    by_cases e : v = i
    · subst e
      by_cases hl : v < σ.length
      · rw [List.getElem?_set_self (by rw [wipe_length]; exact hl), if_pos hl]
      · rw [List.getElem?_eq_none (by rw [List.length_set, wipe_length]; omega), if_neg hl]
    · rw [List.getElem?_set_ne e]
      rcases List.mem_cons.mp h with h | h
      · exact absurd h.symm e
      · exact wipe_in h
theorem Off.wipe {is vs : List Nat} {σ σ' : L2.St} (o : Off is (L2.wipe σ vs) σ') (h : ∀ i ∈ is, i ∈ vs) : L2.wipe σ' vs = L2.wipe σ vs := by
  have hl : σ'.length = σ.length := by rw [o.len, wipe_length]
  apply List.ext_getElem?
  intro i
  by_cases hi : i ∈ vs
  · rw [wipe_in hi, wipe_in hi, hl]
  · rw [wipe_get hi, o.get i (fun z => hi (h i z)), wipe_get hi]
/-- the old entries again -/
def backE (ρ1 ρ2 : Env) : List Nat → Env
  | [] => ρ2
  | v :: vs => (backE ρ1 ρ2 vs).set v (ρ1[v]?.join)
theorem backE_len {ρ1 ρ2 : Env} : ∀ {vs : List Nat}, (backE ρ1 ρ2 vs).length = ρ2.length
  | [] => rfl
  | v :: vs => by unfold backE; rw [List.length_set, backE_len]
theorem backE_some {ρ1 ρ2 : Env} {i : Nat} {b : B} : ∀ {vs : List Nat}, (backE ρ1 ρ2 vs)[i]? = some (some b) → (i ∈ vs ∧ ρ1[i]? = some (some b)) ∨ (i ∉ vs ∧ ρ2[i]? = some (some b))
  | [], h => .inr ⟨by simp, h⟩
  | v :: vs, h => by
    unfold backE at h
    by_cases hi : v = i
    · subst hi
      by_cases hv : v < (backE ρ1 ρ2 vs).length
      · rw [List.getElem?_set_self hv] at h
        injection h with h
        refine .inl ⟨List.mem_cons_self, ?_⟩
        cases e : ρ1[v]? with
        | none => rw [e] at h; cases h
        | some w => rw [e] at h; cases w with
          | none => cases h
          | some w => cases h; rfl
      · rw [List.getElem?_eq_none (by simpa using hv)] at h; cases h
    · rw [List.getElem?_set_ne hi] at h
      rcases backE_some h with ⟨h1, h2⟩ | ⟨h1, h2⟩
      · exact .inl ⟨List.mem_cons_of_mem _ h1, h2⟩
      · exact .inr ⟨by simp only [List.mem_cons, not_or]; exact ⟨fun e => hi e.symm, h1⟩, h2⟩
/-- no owned object in these slots -/
def noOwn (ρ : Env) (vs : List Nat) : Bool := vs.all fun i => match ρ[i]? with
  | some (some (.own _ _)) => false
  | _ => true
theorem noOwn_of {ρ : Env} {vs : List Nat} (h : noOwn ρ vs = true) {i t : Nat} {o : OD} (hi : i ∈ vs) : ρ[i]? ≠ some (some (B.own t o)) := by
  have := List.all_eq_true.mp h i hi
  intro e
  rw [e] at this
  cases this
section
variable {K : PySem.W.Frag} {T : Tab} {τ : Nat → Addr} {ρ ρ' ρ0 : Env} {σ σ' σ0 : L2.St} {G G' H H' G0 H0 : Hp}
theorem own_wipe {vs : List Nat} {a : Addr} (h : OwnAt (wipeE ρ vs) (L2.wipe σ vs) a) : OwnAt ρ σ a := by
  obtain ⟨i, t, o, e, q⟩ := h
  obtain ⟨h1, h2⟩ := wipeE_some e
  exact ⟨i, t, o, h1, (wipe_some q).1⟩
theorem Ok.wipe (k : Ok K T τ ρ σ G H) (vs : List Nat) : Ok K T τ (wipeE ρ vs) (L2.wipe σ vs) G H where
  sub := k.sub
  len := by rw [wipeE_len, wipe_length]; exact k.len
  val := fun i d e => by
    obtain ⟨h1, h2⟩ := wipeE_some e
    rw [wipe_get h2]; exact k.val i d h1
  own := fun i t o e => by
    obtain ⟨h1, h2⟩ := wipeE_some e
    rw [wipe_get h2]; exact k.own i t o h1
  dis := fun i j t u o p a e1 e2 q1 q2 => k.dis i j t u o p a (wipeE_some e1).1 (wipeE_some e2).1 (wipe_some q1).1 (wipe_some q2).1
theorem Fr.wipe (f : Fr ρ0 σ0 G0 H0 ρ σ G H) (vs : List Nat) : Fr ρ0 σ0 G0 H0 (wipeE ρ vs) (L2.wipe σ vs) G H :=
  ⟨f.gro, fun a o h n => by
    obtain ⟨h1, h2, h3⟩ := f.keep a o h n
    exact ⟨h1, h2, fun z => h3 (own_wipe z)⟩, f.stay⟩
theorem Ok.updOff (k : Ok K T τ ρ σ G H) {a : Addr} {u : HO} (g : G a = none) (n : ¬ OwnAt ρ σ a) : Ok K T τ ρ σ G (upd H a u) where
  sub := fun b x e => by
    have : b ≠ a := fun z => by subst z; rw [g] at e; cases e
    rw [upd_ne this]; exact k.sub _ _ e
  len := k.len
  val := k.val
  own := fun i t o e => by
    obtain ⟨b, q, h1, h2, h3⟩ := k.own i t o e
    have : b ≠ a := fun z => by subst z; exact n ⟨i, t, o, e, q⟩
    exact ⟨b, q, h1, h2.mono (Same.refl _) fun w hw => by rw [upd_ne this]; exact hw, h3⟩
  dis := k.dis
theorem Fr.updNew (f : Fr ρ0 σ0 G0 H0 ρ σ G H) {a : Addr} {u : HO} (h : H0 a = none) : Fr ρ0 σ0 G0 H0 ρ σ G (upd H a u) :=
  ⟨f.gro, fun b o hb n => by
    obtain ⟨h1, h2, h3⟩ := f.keep b o hb n
    exact ⟨by rw [upd_ne (ne_of_none hb h)]; exact h1, h2, h3⟩, fun b o hb => by
    obtain ⟨o', h1⟩ := f.stay b o hb
    exact ⟨o', by rw [upd_ne (ne_of_none hb h)]; exact h1⟩⟩
theorem Ok.back (k : Ok K T τ ρ σ G H) {vs : List Nat} (no : noOwn ρ vs = true) (s : Same G G') (k2 : Ok K T τ ρ' (L2.wipe σ vs) G' H') : Ok K T τ (backE ρ ρ' vs) σ G' H' where
  sub := k2.sub
  len := by rw [backE_len, k2.len, wipe_length]
  val := fun i d e => by
    rcases backE_some e with ⟨h1, h2⟩ | ⟨h1, h2⟩
    · obtain ⟨v, q1, q2⟩ := k.val i d h2
      exact ⟨v, q1, q2.mono s⟩
    · obtain ⟨v, q1, q2⟩ := k2.val i d h2
      rw [wipe_get h1] at q1
      exact ⟨v, q1, q2⟩
  own := fun i t o e => by
    rcases backE_some e with ⟨h1, h2⟩ | ⟨h1, h2⟩
    · exact absurd h2 (noOwn_of no h1)
    · obtain ⟨v, q1, q2⟩ := k2.own i t o h2
      rw [wipe_get h1] at q1
      exact ⟨v, q1, q2⟩
  dis := fun i j t u o p a e1 e2 q1 q2 => by
    rcases backE_some e1 with ⟨h1, h2⟩ | ⟨h1, h2⟩
    · exact absurd h2 (noOwn_of no h1)
    · rcases backE_some e2 with ⟨h3, h4⟩ | ⟨h3, h4⟩
      · exact absurd h4 (noOwn_of no h3)
      · exact k2.dis i j t u o p a h2 h4 (by rw [wipe_get h1]; exact q1) (by rw [wipe_get h3]; exact q2)
theorem own_back {vs : List Nat} (no : noOwn ρ vs = true) {a : Addr} (h : OwnAt (backE ρ ρ' vs) σ a) : OwnAt ρ' (L2.wipe σ vs) a := by
  obtain ⟨i, t, o, e, q⟩ := h
  rcases backE_some e with ⟨h1, h2⟩ | ⟨h1, h2⟩
  · exact absurd h2 (noOwn_of no h1)
  · exact ⟨i, t, o, h2, by rw [wipe_get h1]; exact q⟩
theorem Fr.back {vs : List Nat} (no : noOwn ρ vs = true) (f : Fr (wipeE ρ vs) (L2.wipe σ vs) G H ρ' (L2.wipe σ vs) G' H') : Fr ρ σ G H (backE ρ ρ' vs) σ G' H' :=
  ⟨f.gro, fun a o h n => by
    obtain ⟨h1, h2, h3⟩ := f.keep a o h fun z => n (own_wipe z)
    exact ⟨h1, h2, fun z => h3 (own_back no z)⟩, f.stay⟩
end
/-- the tests of a clause -/
def lcGo (vs : List Nat) (g : D → Env → Option Env) (t : DTn) (d : DEn) : List D → Env → List D → Option (Env × List D)
  | [], ρ, acc => some (ρ, acc)
  | x :: xs, ρ, acc => (g x ρ).bind fun ρ1 => match t ρ1 with
    | .ok (ρ2, true) => (match d ρ2 with
      | .ok (ρ3, y) => if acc.length + 1 ≤ 1000000 then lcGo vs g t d xs (wipeE ρ3 vs) (acc ++ [y]) else none
      | _ => none)
    | .ok (ρ2, false) => lcGo vs g t d xs (wipeE ρ2 vs) acc
    | _ => none
def oLc (di : DIn) (vs : List Nat) (g : D → Env → Option Env) (t : DTn) (d : DEn) : DOn := fun ρ => (di ρ).bind fun p => if noOwn p.1 vs = true then match lcGo vs g t d p.2 (wipeE p.1 vs) [] with
  | some q => .ok (backE p.1 q.1 vs, .fr (.lst q.2))
  | none => .bad
  else .bad
abbrev W0 : WX := fun _ _ _ _ => False
section
variable {X : Cx} {T : Tab} {W : WX} {pos : Pos}
structure DTs (X : Cx) (T : Tab) (ifs : List Expr) (d : DTn) : Prop where
  run : PTs X ifs (tTn X.K T W0 d)
def tTrue : DTn := fun ρ => .ok (ρ, true)
theorem dts_nil : DTs X T [] tTrue := ⟨⟨fun pins s σ H Q I q => pts_nil.run pins s σ H Q I (by obtain ⟨τ, ρ, G, k, q⟩ := q; exact q G H k Fr.refl)⟩⟩
theorem dts_one {c : Expr} {t : DTn} (h : DT X T W0 c t) : DTs X T [c] t := ⟨pts_one h⟩
structure LcI (K : PySem.W.Frag) (T : Tab) (τ : Nat → Addr) (ρw : Env) (σw : L2.St) (G1 H1 : Hp) (D : Addr) (ρ : Env) (G H : Hp) (acc : List Zd.D) : Prop where
  ok : Ok K T τ ρ σw G H
  fr : Fr ρw σw G1 H1 ρ σw G H
  at_ : ∃ xs, H D = some (.lst xs) ∧ RzL K T G xs acc
  off : G D = none
  no : ¬ OwnAt ρ σw D
theorem lc_of {K : PySem.W.Frag} {di : DIn} {is vs : List Nat} {g : D → Env → Option Env} {t : DTn} {d : DEn} (hv : ∀ i ∈ is, i ∈ vs) (σ : L2.St) (H : Hp) (Q : VK) (q : tO K T W (oLc di vs g t d) σ H Q) :
    tLc (tI K T W di) (tG K T W0 is g) (tTn K T W0 t) (tE K T W0 d) vs σ H Q := by
  obtain ⟨τ, ρ, G, k, q⟩ := q
  refine ⟨τ, ρ, G, k, (Out.bind0 q).imp fun ρ1 items G1 H1 k1 fr1 q1 J wk => fun D hD => ?_⟩
  dsimp only at q1
  by_cases no : noOwn ρ1 vs = true
  · rw [if_pos no] at q1
    cases er : lcGo vs g t d items (wipeE ρ1 vs) [] with
    | none => rw [er] at q1; exact q1.elim
    | some res =>
      rw [er] at q1
      have hg1 : G1 D = none := k1.sub.free hD
      have kw := k1.wipe vs
      have noD : ¬ OwnAt (wipeE ρ1 vs) (L2.wipe σ vs) D := fun z => by
        obtain ⟨u, hu⟩ := own_there kw z
        rw [hD] at hu; cases hu
      have start : LcI K T τ (wipeE ρ1 vs) (L2.wipe σ vs) G1 H1 D (wipeE ρ1 vs) G1 (upd H1 D (.lst [])) [] :=
        ⟨kw.updOff hg1 noD, Fr.refl.updNew hD, ⟨[], upd_same, RzL.nil⟩, hg1, noD⟩
      refine ⟨fun i m H => m = items.length - i ∧ i ≤ items.length ∧ ∃ ρ G acc, LcI K T τ (wipeE ρ1 vs) (L2.wipe σ vs) G1 H1 D ρ G H acc ∧ lcGo vs g t d (items.drop i) ρ acc = some res, ⟨_, rfl, Nat.zero_le _, _, _, _, start, by rw [List.drop_zero]; exact er⟩, fun i m H hW => ?_⟩
      obtain ⟨rfl, hi, ρ2, G2, acc, L, e2⟩ := hW
      obtain ⟨go, stop⟩ := wk i G2 H L.fr.gro L.ok.sub
      by_cases hlt : i < items.length
      · have hd : items[i]? = some items[i] := List.getElem?_eq_getElem hlt
        obtain ⟨h1, h2⟩ := go _ hd
        rw [List.drop_eq_getElem_cons hlt] at e2
        unfold lcGo at e2
        refine .inr ⟨h1, fun H' => ∃ ρ G acc, LcI K T τ (wipeE ρ1 vs) (L2.wipe σ vs) G1 H1 D ρ G H' acc ∧ lcGo vs g t d (items.drop (i + 1)) ρ acc = some res, fun H' hN => ⟨items.length - (i + 1), by omega, rfl, hlt, hN⟩, fun x H' hy => ?_⟩
        obtain ⟨G3, n, rz⟩ := h2 x H' hy
        have k3 := L.ok.new n
        cases eg : g items[i] ρ2 with
        | none => rw [eg] at e2; cases e2
        | some ρ3 =>
          rw [eg] at e2
          dsimp only [Option.bind_some] at e2
          refine ⟨τ, ρ2, G3, items[i], k3, rz, ρ3, eg, fun σ3 k4 f4 off => ⟨off.wipe hv, τ, ρ3, G3, k4, ?_⟩⟩
          have f03 : Fr (wipeE ρ1 vs) (L2.wipe σ vs) G1 H1 ρ3 σ3 G3 H' := L.fr.trans (n.fr.trans f4)
          obtain ⟨xs, hxs, rxs⟩ := L.at_
          obtain ⟨x1, x2, x3⟩ := (n.fr.trans f4).keep D _ hxs L.no
          cases et : t ρ3 with
          | bad => rw [et] at e2; cases e2
          | ex _ _ => rw [et] at e2; cases e2
          | ok p =>
            obtain ⟨ρ4, b⟩ := p
            rw [et] at e2
            intro G4 H4 k5 f5
            obtain ⟨y1, y2, y3⟩ := f5.keep D _ x1 x3
            cases b with
            | false =>
              dsimp only at e2
              rw [if_neg Bool.false_ne_true]
              have k6 := k5.wipe vs
              have f6 := (f03.trans f5).wipe vs
              rw [off.wipe hv] at k6 f6
              refine ⟨wipeE ρ4 vs, G4, acc, ⟨k6, f6, ⟨xs, y1, (rxs.mono n.gro).mono f5.gro⟩, by rw [y2, x2]; exact L.off, fun z => y3 ?_⟩, e2⟩
              rw [← off.wipe hv] at z
              exact own_wipe z
            | true =>
              dsimp only at e2
              rw [if_pos rfl]
              refine ⟨τ, ρ4, G4, k5, ?_⟩
              cases ed : d ρ4 with
              | bad => rw [ed] at e2; cases e2
              | ex _ _ => rw [ed] at e2; cases e2
              | ok p =>
                obtain ⟨ρ5, y⟩ := p
                rw [ed] at e2
                dsimp only at e2
                by_cases hz : acc.length + 1 ≤ 1000000
                · rw [if_pos hz] at e2
                  intro G5 H5 k6 f6 v rv
                  obtain ⟨z1, z2, z3⟩ := f6.keep D _ y1 y3
                  refine ⟨xs, z1, lt_line (by rw [rxs.len]; exact hz), ?_⟩
                  have k7 := k6.wipe vs
                  have f7 := ((f03.trans f5).trans f6).wipe vs
                  rw [off.wipe hv] at k7 f7
                  have z5 : ¬ OwnAt (wipeE ρ5 vs) (L2.wipe σ vs) D := fun z => by
                    rw [← off.wipe hv] at z
                    exact z3 (own_wipe z)
                  have z6 : G5 D = none := by rw [z2, y2, x2]; exact L.off
                  exact ⟨wipeE ρ5 vs, G5, acc ++ [y], ⟨k7.updOff z6 z5, f7.updNew hD, ⟨_, upd_same, (((rxs.mono n.gro).mono f5.gro).mono f6.gro).append (RzL.cons rv RzL.nil)⟩, z6, z5⟩, e2⟩
                · rw [if_neg hz] at e2; cases e2
      · have e : i = items.length := by omega
        subst e
        rw [List.drop_length] at e2
        unfold lcGo at e2
        cases e2
        obtain ⟨xs, hxs, rxs⟩ := L.at_
        refine .inl ⟨stop rfl, q1 G2 H (k1.back no L.fr.gro L.ok) (fr1.trans (Fr.back no L.fr)) _ ⟨D, rfl, L.off, ⟨xs, hxs, rxs⟩, fun z => L.no (own_back no z)⟩ fun o _ => ⟨D, rfl, fr1.free hD⟩⟩
  · rw [if_neg no] at q1; exact q1.elim
theorem do_lc {elt tg iter : Expr} {ifs : List Expr} {scope : Scope} {own : List (Str × Nat)} {is : List Nat} {di : DIn} {g : D → Env → Option Env} {t : DTn} {d : DEn} (hc : X.calm = true) (hN : X.N.Nodup) (ok : blkC X.N X.env.scope scope own = true) (hv : ∀ i ∈ is, i ∈ own.map (·.2)) (hi : DI X T W tg iter di)
    (hg : ∀ (s : Shared) (H : Hp) (C : Addr) (cl : List (Str × Addr)) (fp : List Addr), DG (X.blk s H scope (compEnvC scope cl C X.env) fp) T W0 tg is g)
    (ht : ∀ (s : Shared) (H : Hp) (C : Addr) (cl : List (Str × Addr)) (fp : List Addr), DTs (X.blk s H scope (compEnvC scope cl C X.env) fp) T ifs t)
    (he : ∀ (s : Shared) (H : Hp) (C : Addr) (cl : List (Str × Addr)) (fp : List Addr), DE (X.blk s H scope (compEnvC scope cl C X.env) fp) T W0 elt d)
    (hs : ∀ x, foldedSetIterable iter X.env x = pure x := by intro _; rfl) : DO X T W (.ListComp elt [⟨tg, iter, ifs, 0⟩] scope pos) (oLc di (own.map (·.2)) g t d) :=
  PE.imp (pe_lc (wi := tI X.K T W di) (g := tG X.K T W0 is g) (tt := tTn X.K T W0 t) (te := tE X.K T W0 d) hc hN hi (blkOk_by ok) hg (fun s H C cl fp => (ht s H C cl fp).run) he hs) fun σ H Q q => lc_of hv σ H Q q
/-- x = [..] on one line -/
theorem ds_setLc {i : Nat} {y : Str} {py : Pos} {elt tg iter : Expr} {ifs : List Expr} {scope : Scope} {own : List (Str × Nat)} {is : List Nat} {spos : Pos} {di : DIn} {g : D → Env → Option Env} {t : DTn} {d : DEn} (hc : X.calm = true) (hN : X.N.Nodup) (ok : blkC X.N X.env.scope scope own = true) (hv : ∀ i ∈ is, i ∈ own.map (·.2)) (hi : DI X T W tg iter di)
    (hg : ∀ (s : Shared) (H : Hp) (C : Addr) (cl : List (Str × Addr)) (fp : List Addr), DG (X.blk s H scope (compEnvC scope cl C X.env) fp) T W0 tg is g)
    (ht : ∀ (s : Shared) (H : Hp) (C : Addr) (cl : List (Str × Addr)) (fp : List Addr), DTs (X.blk s H scope (compEnvC scope cl C X.env) fp) T ifs t)
    (he : ∀ (s : Shared) (H : Hp) (C : Addr) (cl : List (Str × Addr)) (fp : List Addr), DE (X.blk s H scope (compEnvC scope cl C X.env) fp) T W0 elt d)
    (hsw : swapsWith (.ListComp elt [⟨tg, iter, ifs, 0⟩] scope pos) (some (.Name y py)) spos.line X.env = pure true)
    (hy : X.N[i]? = some y := by rfl) (hyl : X.env.scope.names.lookup y = some .local := by rfl) 
    (hs : ∀ x, foldedSetIterable iter X.env x = pure x := by intro _; rfl) : DS X T W (.Assign [.Name y py] (.ListComp elt [⟨tg, iter, ifs, 0⟩] scope pos) spos) (dSet i (oLc di (own.map (·.2)) g t d)) := by
  exact PS.imp (ps_setLc (wi := tI X.K T W di) (g := tG X.K T W0 is g) (tt := tTn X.K T W0 t) (te := tE X.K T W0 d) hc hN hy hyl hsw hi (blkOk_by ok) hg (fun s H C cl fp => (ht s H C cl fp).run) he hs) fun D σ H q => lc_of hv σ H _ (tSet_of D σ H q)
end
end Zd
end
section
/-! Zd 10: defs: what they promise, calls, methods, makings. -/
namespace Zd
open PySem PySem.Spec PyProof.Rows L2
set_option autoImplicit false
/-- what a call does: outs: what has become of the owned arguments -/
inductive CR_ where
  | ok (outs : List (Option OD)) (d : D) | ex (outs : List (Option OD)) (x : Exc) | bad
abbrev CF := List B → CR_
def ArgsAt (K : PySem.W.Frag) (T : Tab) (G H : Hp) : List V → List B → Prop
  | [], [] => True
  | v :: vs, b :: bs => (match b with
    | .val d => Rz K T G v d
    | .own _ o => ∃ a, v = .ref a ∧ G a = none ∧ RO K T G H a o) ∧ ArgsAt K T G H vs bs
  | _, _ => False
def Passed (vs : List V) (bs : List B) (a : Addr) : Prop := ∃ (j t : Nat) (o : OD), bs[j]? = some (.own t o) ∧ vs[j]? = some (V.ref a)
def Dist (vs : List V) (bs : List B) : Prop := ∀ (i j t u : Nat) (o p : OD) (a : Addr), bs[i]? = some (.own t o) → bs[j]? = some (.own u p) → vs[i]? = some (V.ref a) → vs[j]? = some (V.ref a) → i = j
structure Ret (K : PySem.W.Frag) (T : Tab) (G H : Hp) (vs : List V) (bs : List B) (outs : List (Option OD)) (G' H' : Hp) : Prop where
  sub : Same G' H'
  gro : Same G G'
  keep : ∀ a o, H a = some o → ¬ Passed vs bs a → H' a = some o ∧ G' a = G a
  stay : ∀ a o, H a = some o → ∃ o', H' a = some o'
  out : ∀ (j t : Nat) (o : OD), bs[j]? = some (.own t o) → ∃ o' a, outs[j]? = some (some o') ∧ vs[j]? = some (V.ref a) ∧ G' a = none ∧ RO K T G' H' a o'
def spOf (K : PySem.W.Frag) (T : Tab) (n : Nat) (F : CF) : Sp := fun vs H Q E => vs.length = n ∧ ∃ G bs, Same G H ∧ ArgsAt K T G H vs bs ∧ Dist vs bs ∧ match F bs with
  | .ok outs d => ∀ v G' H', Ret K T G H vs bs outs G' H' → Rz K T G' v d → Q v H'
  | .ex outs x => ∀ cls dx G' H', Ret K T G H vs bs outs G' H' → XOk K T G' H' cls dx x → E cls dx H'
  | .bad => False
theorem ArgsAt.len {K : PySem.W.Frag} {T : Tab} {G H : Hp} : ∀ {vs : List V} {bs : List B}, ArgsAt K T G H vs bs → vs.length = bs.length
  | [], [], _ => rfl
  | v :: vs, b :: bs, h => by rw [List.length_cons, List.length_cons, ArgsAt.len h.2]
  | [], _ :: _, h => h.elim
  | _ :: _, [], h => h.elim
theorem ArgsAt.val {K : PySem.W.Frag} {T : Tab} {G H : Hp} : ∀ {vs : List V} {bs : List B} {j : Nat} {d : D}, ArgsAt K T G H vs bs → bs[j]? = some (.val d) → ∃ v, vs[j]? = some v ∧ Rz K T G v d
  | [], [], _, _, _, e => by simp at e
  | v :: vs, b :: bs, 0, d, h, e => by
    simp at e; subst e
    exact ⟨v, rfl, h.1⟩
  | v :: vs, b :: bs, j + 1, d, h, e => by
    obtain ⟨w, h1, h2⟩ := ArgsAt.val (j := j) h.2 (by simpa using e)
    exact ⟨w, by simpa using h1, h2⟩
  | [], _ :: _, _, _, h, _ => h.elim
  | _ :: _, [], _, _, h, _ => h.elim
theorem ArgsAt.own {K : PySem.W.Frag} {T : Tab} {G H : Hp} : ∀ {vs : List V} {bs : List B} {j t : Nat} {o : OD}, ArgsAt K T G H vs bs → bs[j]? = some (.own t o) → ∃ a, vs[j]? = some (V.ref a) ∧ G a = none ∧ RO K T G H a o
  | [], [], _, _, _, _, e => by simp at e
  | v :: vs, b :: bs, 0, t, o, h, e => by
    simp at e; subst e
    obtain ⟨a, rfl, h1, h2⟩ := h.1
    exact ⟨a, rfl, h1, h2⟩
  | v :: vs, b :: bs, j + 1, t, o, h, e => by
    obtain ⟨w, h1, h2⟩ := ArgsAt.own (j := j) h.2 (by simpa using e)
    exact ⟨w, by simpa using h1, h2⟩
  | [], _ :: _, _, _, _, h, _ => h.elim
  | _ :: _, [], _, _, _, h, _ => h.elim
/-! ### the callee -/
def retag (j : Nat) : B → B
  | .val d => .val d
  | .own _ o => .own (j + 1) o
def startE (n : Nat) (bs : List B) : Env := (bs.mapIdx fun j b => some (retag j b)) ++ List.replicate (n - bs.length) none
def findTag (t : Nat) : Env → Option OD
  | [] => none
  | b :: r => match b with
    | some (.own u o) => if u = t then some o else findTag t r
    | _ => findTag t r
theorem findTag_of {t : Nat} {o : OD} : ∀ {ρ : Env}, findTag t ρ = some o → ∃ i : Nat, ρ[i]? = some (some (B.own t o))
  | [], h => by cases h
  | b :: r, h => by
    unfold findTag at h
    split at h
    · rename_i u o'
      by_cases e : u = t
      · rw [if_pos e] at h; cases h
        exact ⟨0, by rw [e]; rfl⟩
      · rw [if_neg e] at h
        obtain ⟨i, h⟩ := findTag_of h
        exact ⟨i + 1, h⟩
    · obtain ⟨i, h⟩ := findTag_of h
      exact ⟨i + 1, h⟩
def outsOf (ρ : Env) : Nat → List B → Option (List (Option OD))
  | _, [] => some []
  | j, .val _ :: bs => (outsOf ρ (j + 1) bs).map (none :: ·)
  | j, .own _ _ :: bs => match findTag (j + 1) ρ with
    | some o => (outsOf ρ (j + 1) bs).map (some o :: ·)
    | none => none
theorem outsOf_get {ρ : Env} : ∀ {bs : List B} {j0 j t : Nat} {o : OD} {outs : List (Option OD)}, outsOf ρ j0 bs = some outs → bs[j]? = some (.own t o) → ∃ o', outs[j]? = some (some o') ∧ findTag (j0 + j + 1) ρ = some o'
  | [], _, j, _, _, _, _, e => by simp at e
  | .val d :: bs, j0, 0, t, o, outs, h, e => by simp at e
  | .val d :: bs, j0, j + 1, t, o, outs, h, e => by
    unfold outsOf at h
    cases q : outsOf ρ (j0 + 1) bs with
    | none => rw [q] at h; cases h
    | some l =>
      rw [q] at h; cases h
      obtain ⟨o', h1, h2⟩ := outsOf_get q (j := j) (by simpa using e)
      exact ⟨o', by simpa using h1, by rw [← h2]; congr 1; omega⟩
  | .own u p :: bs, j0, j, t, o, outs, h, e => by
    unfold outsOf at h
    split at h
    · rename_i o' ho
      cases q : outsOf ρ (j0 + 1) bs with
      | none => rw [q] at h; cases h
      | some l =>
        rw [q] at h; cases h
        cases j with
        | zero => exact ⟨o', rfl, ho⟩
        | succ j =>
          obtain ⟨o2, h1, h2⟩ := outsOf_get q (j := j) (by simpa using e)
          exact ⟨o2, by simpa using h1, by rw [← h2]; congr 1; omega⟩
    · cases h
def fin_ (ρ : Env) (bs : List B) (d : D) : CR_ := match outsOf ρ 0 bs with
  | some outs => .ok outs d
  | none => .bad
def cfOf (n np : Nat) (d : DSn) : CF := fun bs => if bs.length = np then match d (startE n bs) with
  | .ok (ρ, .rt r) => fin_ ρ bs r
  | .ok (ρ, .nx) => fin_ ρ bs .non
  | .ex ρ x => (match outsOf ρ 0 bs with
    | some outs => .ex outs x
    | none => .bad)
  | _ => .bad
  else .bad
/-- the arguments' addresses -/
def tauOf (vs : List V) : Nat → Addr := fun t => match vs[t - 1]? with
  | some (.ref a) => a
  | _ => 0
theorem startE_some {n j : Nat} {bs : List B} {b : B} (h : (startE n bs)[j]? = some (some b)) : ∃ b', bs[j]? = some b' ∧ b = retag j b' := by
  unfold startE at h
  by_cases hj : j < bs.length
  · rw [List.getElem?_append_left (by rw [List.length_mapIdx]; exact hj), List.getElem?_mapIdx] at h
    rw [List.getElem?_eq_getElem hj] at h ⊢
    cases h
    exact ⟨_, rfl, rfl⟩
  · rw [List.getElem?_append_right (by rw [List.length_mapIdx]; omega), List.getElem?_replicate] at h
    split at h <;> cases h
theorem start_at {N : List Str} {vs : List V} {j : Nat} {v : V} (h : vs[j]? = some v) : (L2.start N vs)[j]? = some (some v) := by
  unfold L2.start
  have hj := (List.getElem?_eq_some_iff.mp h).1
  rw [List.getElem?_append_left (by rw [List.length_map]; exact hj), List.getElem?_map, h]
  rfl
theorem start_back {N : List Str} {vs : List V} {j : Nat} {v : V} (h : (L2.start N vs)[j]? = some (some v)) : vs[j]? = some v := by
  unfold L2.start at h
  by_cases hj : j < vs.length
  · rw [List.getElem?_append_left (by rw [List.length_map]; exact hj), List.getElem?_map] at h
    cases e : vs[j]? with
    | none => rw [e] at h; cases h
    | some w => rw [e] at h; cases h; rfl
  · rw [List.getElem?_append_right (by rw [List.length_map]; omega), List.getElem?_replicate] at h
    split at h <;> cases h
section
variable {K : PySem.W.Frag} {T : Tab} {G H G' H' : Hp} {vs : List V} {bs : List B} {N : List Str}
theorem ok_start (s : Same G H) (h : ArgsAt K T G H vs bs) (d : Dist vs bs) : Ok K T (tauOf vs) (startE N.length bs) (L2.start N vs) G H where
  sub := s
  len := by
    unfold startE L2.start
    rw [List.length_append, List.length_append, List.length_mapIdx, List.length_replicate, List.length_map, List.length_replicate, h.len]
  val := fun i d e => by
    obtain ⟨b, h1, h2⟩ := startE_some e
    cases b with
    | own t o => cases h2
    | val d' =>
      cases h2
      obtain ⟨v, h3, h4⟩ := h.val h1
      exact ⟨v, start_at h3, h4⟩
  own := fun i t o e => by
    obtain ⟨b, h1, h2⟩ := startE_some e
    cases b with
    | val d' => cases h2
    | own t' o' =>
      cases h2
      obtain ⟨a, h3, h4, h5⟩ := h.own h1
      refine ⟨a, start_at h3, h4, h5, fun _ => ?_⟩
      unfold tauOf
      rw [Nat.add_sub_cancel, h3]
  dis := fun i j t u o p a e1 e2 q1 q2 => by
    obtain ⟨b, h1, h2⟩ := startE_some e1
    obtain ⟨b', h3, h4⟩ := startE_some e2
    cases b with
    | val d' => cases h2
    | own t' o' =>
      cases b' with
      | val d' => cases h4
      | own u' p' => exact d i j _ _ _ _ a h1 h3 (start_back q1) (start_back q2)
theorem own_start {a : Addr} (h : OwnAt (startE N.length bs) (L2.start N vs) a) : Passed vs bs a := by
  obtain ⟨i, t, o, e, q⟩ := h
  obtain ⟨b, h1, h2⟩ := startE_some e
  cases b with
  | val d' => cases h2
  | own t' o' => exact ⟨i, t', o', h1, start_back q⟩
theorem ret_of {ρ : Env} {σ : L2.St} {outs : List (Option OD)} (h : ArgsAt K T G H vs bs) (k : Ok K T (tauOf vs) ρ σ G' H') (f : Fr (startE N.length bs) (L2.start N vs) G H ρ σ G' H') (e : outsOf ρ 0 bs = some outs) : Ret K T G H vs bs outs G' H' :=
  ⟨k.sub, f.gro, fun a o ha n => by
    obtain ⟨h1, h2, _⟩ := f.keep a o ha fun z => n (own_start z)
    exact ⟨h1, h2⟩, f.stay, fun j t o hj => by
    obtain ⟨o', h1, h2⟩ := outsOf_get e hj
    obtain ⟨i, h3⟩ := findTag_of h2
    obtain ⟨a, q1, q2, q3, q4⟩ := k.own i _ o' h3
    obtain ⟨a', h4, _⟩ := h.own hj
    have h5 : tauOf vs (0 + j + 1) = a' := by
      unfold tauOf
      rw [Nat.add_sub_cancel, Nat.zero_add, h4]
    rw [q4 (by omega)] at h5
    exact ⟨o', a', h1, h4, h5 ▸ q2, h5 ▸ q3⟩⟩
/-- from the body to the promise -/
theorem tS_spOf {d : DSn} {n : Nat} {Q : VK} {E : XK} (h : spOf K T n (cfOf N.length n d) vs H Q E) : tS K T (fun cls dx _ H => E cls dx H) d { nx := fun _ H' => Q .non H', rt := Q } (L2.start N vs) H := by
  obtain ⟨hl, G, bs, s, ha, hd, h⟩ := h
  refine ⟨tauOf vs, startE N.length bs, G, ok_start s ha hd, ?_⟩
  unfold cfOf at h
  by_cases hn : bs.length = n
  · rw [if_pos hn] at h
    cases e : d (startE N.length bs) with
    | bad => rw [e] at h; exact h.elim
    | ex ρ x =>
      rw [e] at h
      dsimp only at h
      cases eo : outsOf ρ 0 bs with
      | none => rw [eo] at h; exact h.elim
      | some outs =>
        rw [eo] at h
        exact fun cls dx σ' G' H' k f xo => h cls dx G' H' (ret_of ha k f eo) xo
    | ok p =>
      obtain ⟨ρ, fl⟩ := p
      rw [e] at h
      cases fl with
      | bk => exact h.elim
      | ct => exact h.elim
      | nx =>
        dsimp only [fin_] at h
        cases eo : outsOf ρ 0 bs with
        | none => rw [eo] at h; exact h.elim
        | some outs =>
          rw [eo] at h
          exact fun σ' G' H' k f => h _ G' H' (ret_of ha k f eo) Rz.non_
      | rt r =>
        dsimp only [fin_] at h
        cases eo : outsOf ρ 0 bs with
        | none => rw [eo] at h; exact h.elim
        | some outs =>
          rw [eo] at h
          exact fun v σ' G' H' k f rz => h v G' H' (ret_of ha k f eo) rz
  · rw [if_neg hn] at h; exact h.elim
end
abbrev WB (E : XK) : WX := fun cls dx _ H => E cls dx H
/-- THE RULE for a def -/
theorem fn_spec {P : Program} {w : World} {K : PySem.W.Frag} {mg : Str → Option Value} {base : Heap} {x qual : Str} {params : Arguments} {body : List Stmt} {scope : Scope} {dvs : List V} {kws : List (Str × V)} {f : Addr} {fd : FuncData} {N ps : List Str} {k : Nat} {T : Tab} {d : DSn}
    (F : FunD K x qual params body scope dvs kws f fd) (S : FnScope N ps scope)
    (hbody : ∀ (cdv : Value) (A : Around) (outer : List PySem.Env) (s : Shared) (H : Hp) (E : XK), Room k (A.deeper (envOfC qual scope s.heap.objs.size f cdv)) →
      DSs (cxOf (L2.CX P w) P w K mg base N qual scope f cdv A outer s H E) T (WB E) body d) : FnOk P w K mg base (L2.CX P w) (k + 1) f fd ps (spOf K T ps.length (cfOf N.length ps.length d)) :=
  F.ok S (fun vs H Q E h => h.1) fun cdv A outer s H vs Q E hr h => ⟨_, hbody cdv A outer s H E hr, tS_spOf h⟩
/-! ### the caller -/
def argB (ρ : Env) : Op → Option B
  | .v d => some (.val d)
  | .pl i => ρ[i]?.join
  | .fr _ => none
def argsB (ρ : Env) : List Op → Option (List B)
  | [] => some []
  | o :: os => match argB ρ o, argsB ρ os with
    | some b, some bs => some (b :: bs)
    | _, _ => none
/-- the places of owned objects, each once -/
def ownPl (ρ : Env) : List Op → List Nat
  | [] => []
  | o :: os => match o with
    | .pl i => (match ρ[i]? with
      | some (some (.own _ _)) => i :: ownPl ρ os
      | _ => ownPl ρ os)
    | _ => ownPl ρ os
def wb1 (ρ : Env) (o : Op) (u : Option OD) : Env := match o, u with
  | .pl i, some o' => (match ρ[i]? with
    | some (some (.own t _)) => ρ.set i (some (.own t o'))
    | _ => ρ)
  | _, _ => ρ
def wb (ρ : Env) : List Op → List (Option OD) → Env
  | o :: os, u :: us => wb (wb1 ρ o u) os us
  | _, _ => ρ
def nodupB : List Nat → Bool
  | [] => true
  | a :: l => !(l.contains a) && nodupB l
theorem nodupB_of : ∀ {l : List Nat}, nodupB l = true → l.Nodup
  | [], _ => List.nodup_nil
  | a :: l, h => by
    unfold nodupB at h
    simp only [Bool.and_eq_true, Bool.not_eq_true'] at h
    exact List.nodup_cons.mpr ⟨by simpa using h.1, nodupB_of h.2⟩
def dCall (F : CF) (a : DAn) : DEn := fun ρ => (a ρ).bind fun p => match argsB p.1 p.2 with
  | some bs => if nodupB (ownPl p.1 p.2) = true then match F bs with
    | .ok outs d => .ok (wb p.1 p.2 outs, d)
    | .ex outs x => .ex (wb p.1 p.2 outs) x
    | .bad => .bad
    else .bad
  | none => .bad
theorem argsB_get {ρ : Env} : ∀ {os : List Op} {bs : List B} {j : Nat} {b : B}, argsB ρ os = some bs → bs[j]? = some b → ∃ o, os[j]? = some o ∧ argB ρ o = some b
  | [], bs, j, b, h, e => by cases h; simp at e
  | o :: os, bs, j, b, h, e => by
    unfold argsB at h
    split at h
    · rename_i b' bs' h1 h2
      cases h
      cases j with
      | zero => simp at e; subst e; exact ⟨o, rfl, h1⟩
      | succ j =>
        obtain ⟨o', q1, q2⟩ := argsB_get h2 (j := j) (by simpa using e)
        exact ⟨o', by simpa using q1, q2⟩
    · cases h
theorem argsB_at {ρ : Env} : ∀ {os : List Op} {bs : List B} {j : Nat} {o : Op}, argsB ρ os = some bs → os[j]? = some o → ∃ b, bs[j]? = some b ∧ argB ρ o = some b
  | [], bs, j, o, h, e => by simp at e
  | o :: os, bs, j, o', h, e => by
    unfold argsB at h
    split at h
    · rename_i b' bs' h1 h2
      cases h
      cases j with
      | zero => simp at e; subst e; exact ⟨b', rfl, h1⟩
      | succ j =>
        obtain ⟨b, q1, q2⟩ := argsB_at h2 (j := j) (by simpa using e)
        exact ⟨b, by simpa using q1, q2⟩
    · cases h
theorem argB_own {ρ : Env} {o : Op} {t : Nat} {od : OD} (h : argB ρ o = some (.own t od)) : ∃ i, o = .pl i ∧ ρ[i]? = some (some (.own t od)) := by
  cases o with
  | v d => cases h
  | fr o => cases h
  | pl i =>
    have h : ρ[i]?.join = some (B.own t od) := h
    cases e : ρ[i]? with
    | none => rw [e] at h; cases h
    | some b =>
      rw [e] at h
      exact ⟨i, rfl, by rw [show b = some (B.own t od) from h] at e; exact e⟩
theorem ownPl_mem {ρ : Env} {i t : Nat} {o : OD} (h : ρ[i]? = some (some (B.own t o))) : ∀ {os : List Op} {j : Nat}, os[j]? = some (.pl i) → i ∈ ownPl ρ os
  | [], j, e => by simp at e
  | o' :: os, 0, e => by
    simp at e; subst e
    unfold ownPl
    simp only [h]
    exact List.mem_cons_self
  | o' :: os, j + 1, e => by
    have := ownPl_mem h (os := os) (j := j) (by simpa using e)
    unfold ownPl
    split
    · split
      · exact List.mem_cons_of_mem _ this
      · exact this
    · exact this
theorem ownPl_inj {ρ : Env} {i t : Nat} {o : OD} (h : ρ[i]? = some (some (B.own t o))) : ∀ {os : List Op} {j l : Nat}, (ownPl ρ os).Nodup → os[j]? = some (.pl i) → os[l]? = some (.pl i) → j = l
  | [], j, l, _, e, _ => by simp at e
  | o' :: os, 0, 0, _, _, _ => rfl
  | o' :: os, 0, l + 1, nd, e, e2 => by
    simp at e; subst e
    have := ownPl_mem h (os := os) (j := l) (by simpa using e2)
    unfold ownPl at nd
    simp only [h] at nd
    exact absurd this (List.nodup_cons.mp nd).1
  | o' :: os, j + 1, 0, nd, e, e2 => by
    simp at e2; subst e2
    have := ownPl_mem h (os := os) (j := j) (by simpa using e)
    unfold ownPl at nd
    simp only [h] at nd
    exact absurd this (List.nodup_cons.mp nd).1
  | o' :: os, j + 1, l + 1, nd, e, e2 => by
    have nd2 : (ownPl ρ os).Nodup := by
      unfold ownPl at nd
      split at nd
      · split at nd
        · exact (List.nodup_cons.mp nd).2
        · exact nd
      · exact nd
    rw [ownPl_inj h nd2 (j := j) (l := l) (by simpa using e) (by simpa using e2)]
/-- what stands in a slot behind the call: owned objects have been changed at the most -/
structure WbAt (ρ : Env) (os : List Op) (us : List (Option OD)) (ρ' : Env) : Prop where
  len : ρ'.length = ρ.length
  val : ∀ (i : Nat) (d : D), ρ'[i]? = some (some (B.val d)) → ρ[i]? = some (some (B.val d))
  own : ∀ (i t : Nat) (o : OD), ρ'[i]? = some (some (B.own t o)) → ∃ p, ρ[i]? = some (some (B.own t p)) ∧ ((p = o ∧ ∀ j : Nat, os[j]? = some (Op.pl i) → ∀ u, us[j]? ≠ some (some u)) ∨ ∃ j : Nat, os[j]? = some (Op.pl i) ∧ us[j]? = some (some o))
theorem wb_at : ∀ (os : List Op) (us : List (Option OD)) (ρ : Env), WbAt ρ os us (wb ρ os us)
  | [], us, ρ => ⟨rfl, fun _ _ h => h, fun i t o h => ⟨o, h, .inl ⟨rfl, fun j e => by simp at e⟩⟩⟩
  | o' :: os, [], ρ => ⟨rfl, fun _ _ h => h, fun i t o h => ⟨o, h, .inl ⟨rfl, fun j e u z => by simp at z⟩⟩⟩
  | o' :: os, u :: us, ρ => by
    have ih := wb_at os us (wb1 ρ o' u)
    have hstep : (wb1 ρ o' u = ρ ∧ ∀ i p, o' = .pl i → u = some p → ∀ t o, ρ[i]? ≠ some (some (B.own t o))) ∨ ∃ i t p q, o' = .pl i ∧ u = some q ∧ ρ[i]? = some (some (B.own t p)) ∧ wb1 ρ o' u = ρ.set i (some (.own t q)) := by
      unfold wb1
      split
      · rename_i i q
        split
        · rename_i t p h
          exact .inr ⟨i, t, p, q, rfl, rfl, h, rfl⟩
        · rename_i h
          refine .inl ⟨rfl, fun i' p e1 e2 t o z => ?_⟩
          cases e1
          exact h t o z
      · rename_i h
        refine .inl ⟨rfl, fun i' p e1 e2 t o z => h i' p e1 e2⟩
    refine ⟨?_, fun i d h => ?_, fun i t o h => ?_⟩
    · show (wb (wb1 ρ o' u) os us).length = _
      rw [ih.len]
      rcases hstep with ⟨e, _⟩ | ⟨i, t, p, q, _, _, _, e⟩
      · rw [e]
      · rw [e, List.length_set]
    · have h1 := ih.val i d h
      rcases hstep with ⟨e, _⟩ | ⟨i', t, p, q, _, _, h2, e⟩
      · rw [e] at h1; exact h1
      · rw [e] at h1
        by_cases hi : i' = i
        · subst hi
          rw [List.getElem?_set_self (List.getElem?_eq_some_iff.mp h2).1] at h1
          cases h1
        · rw [List.getElem?_set_ne hi] at h1; exact h1
    · obtain ⟨p, h1, h2⟩ := ih.own i t o h
      rcases hstep with ⟨e, no⟩ | ⟨i', t', p', q, e1, e2, h3, e⟩
      · rw [e] at h1
        refine ⟨p, h1, ?_⟩
        rcases h2 with ⟨h2, h4⟩ | ⟨j, h2, h4⟩
        · refine .inl ⟨h2, fun j e5 w e6 => ?_⟩
          cases j with
          | zero => simp at e5 e6; exact no i w e5 e6 t p h1
          | succ j => exact h4 j (by simpa using e5) w (by simpa using e6)
        · exact .inr ⟨j + 1, by simpa using h2, by simpa using h4⟩
      · rw [e] at h1
        by_cases hi : i' = i
        · subst hi
          rw [List.getElem?_set_self (List.getElem?_eq_some_iff.mp h3).1] at h1
          cases h1
          refine ⟨p', h3, ?_⟩
          rcases h2 with ⟨h2, h4⟩ | ⟨j, h2, h4⟩
          · subst h2
            exact .inr ⟨0, by rw [e1]; rfl, by rw [e2]; rfl⟩
          · exact .inr ⟨j + 1, by simpa using h2, by simpa using h4⟩
        · rw [List.getElem?_set_ne hi] at h1
          refine ⟨p, h1, ?_⟩
          rcases h2 with ⟨h2, h4⟩ | ⟨j, h2, h4⟩
          · refine .inl ⟨h2, fun j e5 w e6 => ?_⟩
            cases j with
            | zero =>
              simp at e5
              rw [e1] at e5
              injection e5 with e5
              exact hi e5
            | succ j => exact h4 j (by simpa using e5) w (by simpa using e6)
          · exact .inr ⟨j + 1, by simpa using h2, by simpa using h4⟩
section
variable {K : PySem.W.Frag} {T : Tab} {τ : Nat → Addr} {ρ : Env} {σ : L2.St} {G H G' H' : Hp}
theorem RpOps.get : ∀ {vs : List V} {os : List Op} {j : Nat} {o : Op}, RpOps K T ρ σ G H vs os → os[j]? = some o → ∃ v, vs[j]? = some v ∧ RpOp K T ρ σ G H v o
  | [], [], _, _, _, e => by simp at e
  | v :: vs, o :: os, 0, o', h, e => by simp at e; subst e; exact ⟨v, rfl, h.1⟩
  | v :: vs, o :: os, j + 1, o', h, e => by
    obtain ⟨w, h1, h2⟩ := RpOps.get (j := j) h.2.1 (by simpa using e)
    exact ⟨w, by simpa using h1, h2⟩
  | [], _ :: _, _, _, h, _ => h.elim
  | _ :: _, [], _, _, h, _ => h.elim
theorem args_at (k : Ok K T τ ρ σ G H) : ∀ {vs : List V} {os : List Op} {bs : List B}, RpOps K T ρ σ G H vs os → argsB ρ os = some bs → ArgsAt K T G H vs bs
  | [], [], bs, _, e => by cases e; trivial
  | v :: vs, o :: os, bs, r, e => by
    unfold argsB at e
    split at e
    · rename_i b bs' h1 h2
      cases e
      refine ⟨?_, args_at k r.2.1 h2⟩
      cases o with
      | v d => cases h1; exact r.1
      | fr o => cases h1
      | pl i =>
        have hb : ρ[i]? = some (some b) := by
          have h1 : ρ[i]?.join = some b := h1
          cases e : ρ[i]? with
          | none => rw [e] at h1; cases h1
          | some b' => rw [e] at h1; rw [show b' = some b from h1]
        have hv : σ[i]? = some (some v) := r.1
        cases b with
        | val d =>
          obtain ⟨v', q1, q2⟩ := k.val i d hb
          rw [hv] at q1; cases q1
          exact q2
        | own t o =>
          obtain ⟨a, q1, q2, q3, _⟩ := k.own i t o hb
          rw [hv] at q1; cases q1
          exact ⟨a, rfl, q2, q3⟩
    · cases e
  | [], _ :: _, _, r, _ => r.elim
  | _ :: _, [], _, r, _ => r.elim
theorem own_arg {vs : List V} {os : List Op} {bs : List B} (rv : RpOps K T ρ σ G H vs os) (e : argsB ρ os = some bs) {j t : Nat} {o : OD} {a : Addr} (h : bs[j]? = some (.own t o)) (hv : vs[j]? = some (V.ref a)) : ∃ i, os[j]? = some (.pl i) ∧ ρ[i]? = some (some (B.own t o)) ∧ σ[i]? = some (some (V.ref a)) := by
  obtain ⟨op, h1, h2⟩ := argsB_get e h
  obtain ⟨i, rfl, h3⟩ := argB_own h2
  obtain ⟨v, h4, h5⟩ := rv.get h1
  rw [hv] at h4; cases h4
  exact ⟨i, h1, h3, h5⟩
theorem dist_args (k : Ok K T τ ρ σ G H) {vs : List V} {os : List Op} {bs : List B} (rv : RpOps K T ρ σ G H vs os) (e : argsB ρ os = some bs) (nd : (ownPl ρ os).Nodup) : Dist vs bs := fun i j t u o p a h1 h2 h3 h4 => by
  obtain ⟨m, e1, e2, e3⟩ := own_arg rv e h1 h3
  obtain ⟨n, e4, e5, e6⟩ := own_arg rv e h2 h4
  have hmn := k.dis m n _ _ _ _ a e2 e5 e3 e6
  subst hmn
  exact ownPl_inj e2 nd e1 e4
theorem own_wb {os : List Op} {us : List (Option OD)} {ρ' : Env} (w : WbAt ρ os us ρ') {a : Addr} (h : OwnAt ρ' σ a) : OwnAt ρ σ a := by
  obtain ⟨i, t, o, e, q⟩ := h
  obtain ⟨p, h1, _⟩ := w.own i t o e
  exact ⟨i, t, p, h1, q⟩
theorem passed_own {vs : List V} {os : List Op} {bs : List B} (rv : RpOps K T ρ σ G H vs os) (e : argsB ρ os = some bs) {a : Addr} (h : Passed vs bs a) : OwnAt ρ σ a := by
  obtain ⟨j, t, o, h1, h2⟩ := h
  obtain ⟨i, e1, e2, e3⟩ := own_arg rv e h1 h2
  exact ⟨i, t, o, e2, e3⟩
/-- the caller's frame behind the call -/
theorem back_call (k : Ok K T τ ρ σ G H) {vs : List V} {os : List Op} {bs : List B} {us : List (Option OD)} (rv : RpOps K T ρ σ G H vs os) (e : argsB ρ os = some bs) (nd : (ownPl ρ os).Nodup) (r : Ret K T G H vs bs us G' H') :
    Ok K T τ (wb ρ os us) σ G' H' ∧ Fr ρ σ G H (wb ρ os us) σ G' H' := by
  have w := wb_at os us ρ
  refine ⟨⟨r.sub, w.len.trans k.len, fun i d h => ?_, fun i t o h => ?_, fun i j t u o p a h1 h2 h3 h4 => ?_⟩, ⟨r.gro, fun a o ha n => ?_, r.stay⟩⟩
  · obtain ⟨v, h1, h2⟩ := k.val i d (w.val i d h)
    exact ⟨v, h1, h2.mono r.gro⟩
  · obtain ⟨p, h1, h2⟩ := w.own i t o h
    obtain ⟨a, q1, q2, q3, q4⟩ := k.own i t p h1
    rcases h2 with ⟨rfl, h3⟩ | ⟨j, h2, h3⟩
    · have np : ¬ Passed vs bs a := fun ⟨j, t', o', z1, z2⟩ => by
        obtain ⟨m, e1, e2, e3⟩ := own_arg rv e z1 z2
        have hm := k.dis m i _ _ _ _ a e2 h1 e3 q1
        subst hm
        obtain ⟨o2, a2, z3, _⟩ := r.out j t' o' z1
        exact h3 j e1 _ z3
      obtain ⟨u, hu⟩ := q3.there
      obtain ⟨z1, z2⟩ := r.keep a u hu np
      exact ⟨a, q1, z2.trans q2, q3.mono r.gro fun u' hu' => by rw [hu] at hu'; cases hu'; exact z1, q4⟩
    · obtain ⟨b, z1, z2⟩ := argsB_at e h2
      have hb : b = .own t p := by
        have z2 : ρ[i]?.join = some b := z2
        rw [h1] at z2
        cases z2; rfl
      subst hb
      obtain ⟨o2, a2, z3, z4, z5, z6⟩ := r.out j t p z1
      rw [h3] at z3; cases z3
      obtain ⟨v, z7, z8⟩ := rv.get h2
      rw [z4] at z7; cases z7
      have z9 : σ[i]? = some (some (V.ref a2)) := z8
      rw [q1] at z9; cases z9
      exact ⟨a, q1, z5, z6, q4⟩
  · obtain ⟨p1, z1, _⟩ := w.own i t o h1
    obtain ⟨p2, z2, _⟩ := w.own j u p h2
    exact k.dis i j _ _ _ _ a z1 z2 h3 h4
  · obtain ⟨z1, z2⟩ := r.keep a o ha fun z => n (passed_own rv e z)
    exact ⟨z1, z2, fun z => n (own_wb w z)⟩
end
/-- what the caller may let out of the callee -/
structure Psx (X : Cx) (W : WX) (E : XK) : Prop where
  pass : Passes (L2.CX X.prog X.w) X E
  to : ∀ c d σ H, W c d σ H → E c d H
theorem psx0 {X : Cx} : Psx X W0 E0 := ⟨passL, fun _ _ _ _ h => h⟩
theorem psx_of {X : Cx} {E : XK} (tk : Takes X (WB E)) : Psx X (WB E) E := ⟨passes_call tk fun _ _ _ _ h => h, fun _ _ _ _ h => h⟩
section
variable {X : Cx} {T : Tab} {W : WX} {pos : Pos}
theorem tCall_of {K : PySem.W.Frag} {n : Nat} {F : CF} {a : DAn} {E : XK} (hE : ∀ c d σ H, W c d σ H → E c d H) (hn : ∀ bs, bs.length ≠ n → F bs = .bad) (σ : L2.St) (H : Hp) (Q : VK) (q : tE K T W (dCall F a) σ H Q) : tCall (spOf K T n F) [] E (tA K T W a) σ H Q := by
  obtain ⟨τ, ρ, G, k, q⟩ := q
  refine ⟨τ, ρ, G, k, (Out.bind q).imp fun ρ1 ops G1 H1 k1 fr1 q1 vs rvs fvs => ?_⟩
  dsimp only at q1
  show spOf K T n F (vs ++ []) H1 Q E
  rw [List.append_nil]
  split at q1
  · rename_i bs h1
    by_cases nd : nodupB (ownPl ρ1 ops) = true
    · rw [if_pos nd] at q1
      have nd := nodupB_of nd
      have ha := args_at k1 rvs h1
      have hl : vs.length = n := by
        rw [ha.len]
        by_cases z : bs.length = n
        · exact z
        · rw [hn bs z] at q1; exact q1.elim
      refine ⟨hl, G1, bs, k1.sub, ha, dist_args k1 rvs h1 nd, ?_⟩
      cases e : F bs with
      | bad => rw [e] at q1; exact q1
      | ok outs d =>
        rw [e] at q1
        intro v G2 H2 r rz
        obtain ⟨k2, f2⟩ := back_call k1 rvs h1 nd r
        exact q1 G2 H2 k2 f2 v rz
      | ex outs x =>
        rw [e] at q1
        intro cls dx G2 H2 r xo
        obtain ⟨k2, f2⟩ := back_call k1 rvs h1 nd r
        exact hE _ _ _ _ (q1 cls dx G2 H2 k2 f2 xo)
    · rw [if_neg nd] at q1; exact q1.elim
  · exact q1.elim
/-- a def that may be called here -/
structure FOk (X : Cx) (T : Tab) (E : XK) (f : Addr) (n : Nat) (F : CF) : Prop where
  ex : ∃ (fd : FuncData) (ps : List Str) (k : Nat), FnOk X.prog X.w X.K X.mg X.base (L2.CX X.prog X.w) k f fd ps (spOf X.K T n F) ∧ Room k X.A ∧ Binds X.K fd ps [] ∧ PySem.W.keepIn X.K (.ref f) = true
  bad : ∀ bs, bs.length ≠ n → F bs = .bad
theorem cfOf_bad {m n : Nat} {d : DSn} (bs : List B) (h : bs.length ≠ n) : cfOf m n d bs = .bad := by unfold cfOf; rw [if_neg h]
theorem de_call {x : Str} {f : Addr} {n : Nat} {F : CF} {E : XK} {e : Expr} {es : List Expr} {a : DAn} {p : Pos} (px : Psx X W E) (O : FOk X T E f n F) (hm : X.mg x = some (.ref f)) (ha : DA X T W (e :: es) a) (hg : Gl X x := by rfl) (hdb : (x == ("__debug__" : Str)) = false := by decide)
    (he : starEach (e :: es) X.env = (false, eval e X.env) :: starEach es X.env := by rfl) (hpl : (backTo pos (starEach es X.env)).any (·.1) = false := by rfl) : DE X T W (.Call (.Name x p) (e :: es) [] pos) (dCall F a) := by
  obtain ⟨fd, ps, k, Fn, hr, hb, hk⟩ := O.ex
  exact PE.imp (pe_call Fn hr hg hm hk hb .nil px.pass ha hdb he hpl) fun σ H Q q => tCall_of px.to O.bad σ H Q q
end
end Zd
end
section
/-! Zd 11: methods, makings, fields stored. -/
namespace Zd
open PySem PySem.Spec PyProof.Rows L2
set_option autoImplicit false
section
variable {X : Cx} {T : Tab} {W : WX} {pos apos : Pos}
def dMeth (M : Nat → Option CF) (o : DOn) (a : DAn) : DEn := fun ρ => (o ρ).bind fun p => match res p.1 p.2 with
  | some (.ins c _) => (match M c with
    | some F => dCall F (fun ρ => (a ρ).bind fun q => .ok (q.1, p.2 :: q.2)) p.1
    | none => .bad)
  | _ => .bad
theorem lookup_no {m : Str} {fs : List (Str × V)} {L : List Str} {n : Nat} (e : fs.map (·.1) = L.take n) (h : m ∉ L) : fs.lookup m = none := by
  cases q : fs.lookup m with
  | none => rfl
  | some v =>
    have h1 : (m, v) ∈ fs := PySem.mem_of_lookup q
    have h2 : m ∈ fs.map (·.1) := List.mem_map.mpr ⟨_, h1, rfl⟩
    rw [e] at h2
    exact absurd (List.mem_of_mem_take h2) h
/-- the frame is as it was, new things apart -/
theorem dCall_sp {K : PySem.W.Frag} {n : Nat} {F : CF} {E : XK} {τ : Nat → Addr} {ρ1 : Env} {σ : L2.St} {G1 H1 : Hp} {Q : VK} (hE : ∀ c d σ H, W c d σ H → E c d H) (hn : ∀ bs, bs.length ≠ n → F bs = .bad) {ops : List Op} {vs : List V} (k1 : Ok K T τ ρ1 σ G1 H1) (rvs : RpOps K T ρ1 σ G1 H1 vs ops)
    (q1 : Out K T W τ ρ1 σ G1 H1 (match argsB ρ1 ops with
      | some bs => if nodupB (ownPl ρ1 ops) = true then match F bs with
        | .ok outs d => .ok (wb ρ1 ops outs, d)
        | .ex outs x => .ex (wb ρ1 ops outs) x
        | .bad => .bad
        else .bad
      | none => .bad) fun _ r G' H' => ∀ v, Rz K T G' v r → Q v H') : spOf K T n F vs H1 Q E := by
  split at q1
  · rename_i bs h1
    by_cases nd : nodupB (ownPl ρ1 ops) = true
    · rw [if_pos nd] at q1
      have nd := nodupB_of nd
      have ha := args_at k1 rvs h1
      have hl : vs.length = n := by
        rw [ha.len]
        by_cases z : bs.length = n
        · exact z
        · rw [hn bs z] at q1; exact q1.elim
      refine ⟨hl, G1, bs, k1.sub, ha, dist_args k1 rvs h1 nd, ?_⟩
      cases e : F bs with
      | bad => rw [e] at q1; exact q1
      | ok outs d =>
        rw [e] at q1
        intro v G2 H2 r rz
        obtain ⟨k2, f2⟩ := back_call k1 rvs h1 nd r
        exact q1 G2 H2 k2 f2 v rz
      | ex outs x =>
        rw [e] at q1
        intro cls dx G2 H2 r xo
        obtain ⟨k2, f2⟩ := back_call k1 rvs h1 nd r
        exact hE _ _ _ _ (q1 cls dx G2 H2 k2 f2 xo)
    · rw [if_neg nd] at q1; exact q1.elim
  · exact q1.elim
theorem tMeth_of {K : PySem.W.Frag} {E : XK} {m : Str} {M : Nat → Option CF} {oo : DOn} {da : DAn} (hE : ∀ c d σ H, W c d σ H → E c d H) (nn : Nat → Nat) (hM : ∀ c F, M c = some F → m ∉ T.lay c ∧ ∀ bs, bs.length ≠ nn c → F bs = .bad) (h0 : ∃ c F, M c = some F) (σ : L2.St) (H : Hp) (Q : VK)
    (q : tE K T W (dMeth M oo da) σ H Q) : ∃ (c : Nat) (F : CF), M c = some F ∧ tMeth (T.cls c) m (spOf K T (nn c) F) [] E (tO K T W oo) (tA K T W da) σ H Q := by
  obtain ⟨τ, ρ, G, k, q⟩ := q
  cases eo : oo ρ with
  | bad => unfold dMeth at q; rw [eo] at q; exact q.elim
  | ex ρ2 x =>
    obtain ⟨c, F, hF⟩ := h0
    refine ⟨c, F, hF, τ, ρ, G, k, ?_⟩
    unfold dMeth at q
    rw [eo] at q ⊢
    exact q
  | ok p =>
    obtain ⟨ρ1, op⟩ := p
    have q0 := q
    unfold dMeth at q0
    rw [eo] at q0
    dsimp only [R.bind_ok] at q0
    split at q0
    · rename_i c xs h1
      cases hF : M c with
      | none => rw [hF] at q0; exact q0.elim
      | some F =>
        rw [hF] at q0
        dsimp only at q0
        obtain ⟨hm, hn⟩ := hM c F hF
        refine ⟨c, F, hF, τ, ρ, G, k, ?_⟩
        rw [eo]
        intro G1 H1 k1 fr1 x rv fv
        dsimp only at k1 fr1 rv
        obtain ⟨a, dx, fs, e1, e2, e3, e4⟩ := Rb.ins k1.sub (k1.resolve rv h1)
        refine ⟨a, dx, fs, e1, e2, lookup_no e3 hm, τ, ρ1, G1, k1, ?_⟩
        have q3 : Out K T W τ ρ1 σ G1 H1 ((da ρ1).bind fun q => .ok (q.1, op :: q.2)) _ := Out.bind (Out.shift fr1 q0)
        refine (Out.bind q3).imp fun ρ2 ops G2 H2 k2 fr2 q4 vs rvs fvs => ?_
        show spOf K T (nn c) F (x :: (vs ++ [])) H2 Q E
        rw [List.append_nil]
        have q5 := q4 G2 H2 k2 Fr.refl
        by_cases hfr : ∃ od, op = .fr od
        · obtain ⟨od, rfl⟩ := hfr
          exact (show False from q5).elim
        · exact dCall_sp (ops := op :: ops) hE hn k2 ⟨rv.fr fr2, rvs, fun od e => absurd ⟨od, e⟩ hfr⟩ q5
    · exact q0.elim
theorem aNil_of {K : PySem.W.Frag} {σ : L2.St} {H : Hp} {R : List V → Hp → Prop} (q : tA K T W aNil σ H R) : tNil σ H R := by
  obtain ⟨τ, ρ, G, k, q⟩ := q
  exact q G H k Fr.refl [] True.intro (fun j od e => by simp at e)
/-- the methods named m, by the class -/
structure MOk (X : Cx) (T : Tab) (m : Str) (nn : Nat → Nat) (M : Nat → Option CF) : Prop where
  all : ∀ c F, M c = some F → Cls X.K (T.cls c) ∧ m ∉ T.lay c ∧ (∀ bs, bs.length ≠ nn c → F bs = .bad) ∧
    ∃ (f : Addr) (fd : FuncData) (ps : List Str) (k : Nat), Meth X.K (T.cls c) m f ∧ FnOk X.prog X.w X.K X.mg X.base (L2.CX X.prog X.w) k f fd ps (spOf X.K T (nn c) F) ∧ Room k X.A ∧ Binds X.K fd ps []
  some : ∃ c F, M c = .some F
theorem de_meth {m : Str} {M : Nat → Option CF} {nn : Nat → Nat} {E : XK} {o e : Expr} {es : List Expr} {oo : DOn} {da : DAn} {pl : Sem Bool} (px : Psx X W E) (O : MOk X T m nn M) (ho : DO X T W o oo) (ha : DA X T W (e :: es) da)
    (hst : starEach (e :: es) X.env = (false, eval e X.env) :: starEach es X.env := by rfl) (hpl : (backTo pos (starEach es X.env)).any (·.1) = false := by rfl)
    (ht : eval (.Call (.Attribute o m apos) (e :: es) [] pos) X.env = (do
      let ov ← eval o X.env
      standAt apos.atName
      let (f, first) ← holding [ov] (getMethod ov m pl)
      callWith pos f first (backTo pos (starEach (e :: es) X.env)) (backToKw pos (keywordEach [] X.env))) := by rfl) :
    DE X T W (.Call (.Attribute o m apos) (e :: es) [] pos) (dMeth M oo da) := by
  refine PE.imp (PE.ors (ι := { p : Nat × CF // M p.1 = some p.2 }) (t := fun i => tMeth (T.cls i.1.1) m (spOf X.K T (nn i.1.1) i.1.2) [] E (tO X.K T W oo) (tA X.K T W da)) fun i => ?_) fun σ H Q q => ?_
  · obtain ⟨cl, hm, hn, f, fd, ps, k, mt, Fn, hr, hb⟩ := O.all _ _ i.2
    exact pe_meth ho cl mt Fn hr hb .nil px.pass ha hst hpl ht
  · obtain ⟨c, F, hF, q⟩ := tMeth_of px.to nn (fun c F h => ⟨(O.all c F h).2.1, (O.all c F h).2.2.1⟩) O.some σ H Q q
    exact ⟨⟨(c, F), hF⟩, q⟩
theorem de_meth0 {m : Str} {M : Nat → Option CF} {nn : Nat → Nat} {E : XK} {o : Expr} {oo : DOn} {pl : Sem Bool} (px : Psx X W E) (O : MOk X T m nn M) (ho : DO X T W o oo)
    (ht : eval (.Call (.Attribute o m apos) [] [] pos) X.env = (do
      let ov ← eval o X.env
      standAt apos.atName
      let (f, first) ← holding [ov] (getMethod ov m pl)
      callWith pos f first (backTo pos (starEach [] X.env)) (backToKw pos (keywordEach [] X.env))) := by rfl) :
    DE X T W (.Call (.Attribute o m apos) [] [] pos) (dMeth M oo aNil) := by
  refine PE.imp (PE.ors (ι := { p : Nat × CF // M p.1 = some p.2 }) (t := fun i => tMeth (T.cls i.1.1) m (spOf X.K T (nn i.1.1) i.1.2) [] E (tO X.K T W oo) tNil) fun i => ?_) fun σ H Q q => ?_
  · obtain ⟨cl, hm, hn, f, fd, ps, k, mt, Fn, hr, hb⟩ := O.all _ _ i.2
    exact pe_meth0 ho cl mt Fn hr hb .nil px.pass ht
  · obtain ⟨c, F, hF, q⟩ := tMeth_of px.to nn (fun c F h => ⟨(O.all c F h).2.1, (O.all c F h).2.2.1⟩) O.some σ H Q q
    refine ⟨⟨(c, F), hF⟩, ?_⟩
    obtain ⟨τ, ρ, G, k, q⟩ := q
    refine ⟨τ, ρ, G, k, q.imp fun ρ1 op G1 H1 k1 f1 q1 v rv fv => ?_⟩
    obtain ⟨a, dx, fs, e1, e2, e3, q2⟩ := q1 v rv fv
    exact ⟨a, dx, fs, e1, e2, e3, aNil_of q2⟩

/-! ### a class is called -/
/-- the new instance's attributes: none, or what __init__ has stored -/
def oMake (c : Nat) (F : CF) (a : DAn) : DOn := fun ρ => (a ρ).bind fun p => match argsB p.1 p.2 with
  | some bs => if nodupB (ownPl p.1 p.2) = true then match F (.own 0 (.ins c []) :: bs) with
    | .ok (some o :: outs) .non => .ok (wb p.1 p.2 outs, .fr o)
    | .ex (_ :: outs) x => .ex (wb p.1 p.2 outs) x
    | _ => .bad
    else .bad
  | none => .bad
theorem ArgsAt.mono {K : PySem.W.Frag} {G H H' : Hp} (s : Same H H') : ∀ {vs : List V} {bs : List B}, ArgsAt K T G H vs bs → ArgsAt K T G H' vs bs
  | [], [], h => h
  | v :: vs, b :: bs, h => by
    refine ⟨?_, ArgsAt.mono s h.2⟩
    cases b with
    | val d => exact h.1
    | own t o =>
      obtain ⟨a, e, g, r⟩ := h.1
      exact ⟨a, e, g, r.mono (Same.refl _) fun u hu => s _ _ hu⟩
  | [], _ :: _, h => h.elim
  | _ :: _, [], h => h.elim
theorem tMake_of {K : PySem.W.Frag} {E : XK} {c n : Nat} {F : CF} {a : DAn} (hE : ∀ c d σ H, W c d σ H → E c d H) (hn : ∀ bs, bs.length ≠ n → F bs = .bad) (σ : L2.St) (H : Hp) (Q : VK) (q : tO K T W (oMake c F a) σ H Q) : tMake (T.cls c) (spOf K T n F) [] E (tA K T W a) σ H Q := by
  obtain ⟨τ, ρ, G, k, q⟩ := q
  refine ⟨τ, ρ, G, k, (Out.bind0 q).imp fun ρ1 ops G1 H1 k1 fr1 q1 vs rvs fvs x dx hx hdx hne => ?_⟩
  dsimp only at q1
  rw [List.append_nil]
  split at q1
  · rename_i bs h1
    by_cases nd : nodupB (ownPl ρ1 ops) = true
    · rw [if_pos nd] at q1
      have nd := nodupB_of nd
      have ha := args_at k1 rvs h1
      have hd := dist_args k1 rvs h1 nd
      have s1 : Same H1 (upd H1 dx (.own x)) := Same.upd hdx
      have hx2 : upd H1 dx (HO.own x) x = none := by rw [upd_ne (fun e => hne e.symm)]; exact hx
      have s2 : Same H1 (upd (upd H1 dx (.own x)) x (.ins (T.cls c) dx [])) := s1.trans (Same.upd hx2)
      have gx : G1 x = none := k1.sub.free hx
      have hl : (V.ref x :: vs).length = n := by
        have e : (V.ref x :: vs).length = (B.own 0 (.ins c []) :: bs).length := by rw [List.length_cons, List.length_cons, ha.len]
        rw [e]
        by_cases z : (B.own 0 (.ins c []) :: bs).length = n
        · exact z
        · rw [hn _ z] at q1; exact q1.elim
      have noP : ∀ (j t : Nat) (o : OD), bs[j]? = some (.own t o) → vs[j]? ≠ some (V.ref x) := fun j t o hj hv => by
        obtain ⟨b, z1, z2, z3⟩ := ha.own hj
        rw [hv] at z1; cases z1
        obtain ⟨u, hu⟩ := z3.there
        rw [hx] at hu; cases hu
      have hd2 : Dist (V.ref x :: vs) (B.own 0 (.ins c []) :: bs) := fun i j t u o p b h1 h2 h3 h4 => by
        cases i with
        | zero =>
          cases j with
          | zero => rfl
          | succ j =>
            simp at h3; subst h3
            exact absurd (by simpa using h4) (noP j u p (by simpa using h2))
        | succ i =>
          cases j with
          | zero =>
            simp at h4; subst h4
            exact absurd (by simpa using h3) (noP i t o (by simpa using h1))
          | succ j => rw [hd i j t u o p b (by simpa using h1) (by simpa using h2) (by simpa using h3) (by simpa using h4)]
      have back : ∀ {outs : List (Option OD)} {u : Option OD} {G2 H2 : Hp}, Ret K T G1 (upd (upd H1 dx (.own x)) x (.ins (T.cls c) dx [])) (V.ref x :: vs) (B.own 0 (.ins c []) :: bs) (u :: outs) G2 H2 → Ret K T G1 H1 vs bs outs G2 H2 := fun {outs u G2 H2} r =>
        ⟨r.sub, r.gro, fun b o hb np => r.keep b o (s2 _ _ hb) fun ⟨j, t, o', z1, z2⟩ => by
          cases j with
          | zero => simp at z2; subst z2; rw [hx] at hb; cases hb
          | succ j => exact np ⟨j, t, o', by simpa using z1, by simpa using z2⟩, fun b o hb => r.stay b o (s2 _ _ hb), fun j t o hj => by
          obtain ⟨o', b, z1, z2, z3, z4⟩ := r.out (j + 1) t o (by simpa using hj)
          exact ⟨o', b, by simpa using z1, by simpa using z2, z3, z4⟩⟩
      refine ⟨hl, G1, B.own 0 (.ins c []) :: bs, k1.sub.trans s2, ⟨⟨x, rfl, gx, dx, [], upd_same, by simp, by rw [List.map_nil]; exact RzL.nil⟩, ha.mono s2⟩, hd2, ?_⟩
      cases e : F (B.own 0 (.ins c []) :: bs) with
      | bad => rw [e] at q1; exact q1
      | ok outs d =>
        rw [e] at q1
        cases outs with
        | nil => exact q1.elim
        | cons u outs =>
          cases u with
          | none => exact q1.elim
          | some o =>
            cases d with
            | non =>
              intro v G2 H2 r rz
              rw [Rz] at rz
              refine ⟨rz, ?_⟩
              obtain ⟨k2, f2⟩ := back_call k1 rvs h1 nd (back r)
              obtain ⟨o', b, z1, z2, z3, z4⟩ := r.out 0 0 _ rfl
              simp at z1 z2
              subst z1 z2
              exact q1 G2 H2 k2 (fr1.trans f2) _ ⟨x, rfl, z3, z4, fun z => by
                obtain ⟨u, hu⟩ := own_there k1 (own_wb (wb_at ops outs ρ1) z)
                rw [hx] at hu; cases hu⟩ fun od e => ⟨x, rfl, fr1.free hx⟩
            | _ => exact q1.elim
      | ex outs y =>
        rw [e] at q1
        cases outs with
        | nil => exact q1.elim
        | cons u outs =>
          intro cls dx' G2 H2 r xo
          obtain ⟨k2, f2⟩ := back_call k1 rvs h1 nd (back r)
          exact hE _ _ _ _ (q1 cls dx' G2 H2 k2 (fr1.trans f2) xo)
    · rw [if_neg nd] at q1; exact q1.elim
  · exact q1.elim
structure KOk (X : Cx) (T : Tab) (c : Nat) (n : Nat) (F : CF) : Prop where
  ex : ∃ (f : Addr) (fd : FuncData) (ps : List Str) (k : Nat), Mk X.K (T.cls c) f ∧ FnOk X.prog X.w X.K X.mg X.base (L2.CX X.prog X.w) k f fd ps (spOf X.K T n F) ∧ Room (k + 1) X.A ∧ Binds X.K fd ps []
  bad : ∀ bs, bs.length ≠ n → F bs = .bad
theorem do_make {x : Str} {c n : Nat} {F : CF} {E : XK} {e : Expr} {es : List Expr} {a : DAn} {p : Pos} (px : Psx X W E) (O : KOk X T c n F) (hm : X.mg x = some (.ref (T.cls c))) (ha : DA X T W (e :: es) a) (hg : Gl X x := by rfl) (hdb : (x == ("__debug__" : Str)) = false := by decide)
    (he : starEach (e :: es) X.env = (false, eval e X.env) :: starEach es X.env := by rfl) (hpl : (backTo pos (starEach es X.env)).any (·.1) = false := by rfl) : DO X T W (.Call (.Name x p) (e :: es) [] pos) (oMake c F a) := by
  obtain ⟨f, fd, ps, k, M, Fn, hr, hb⟩ := O.ex
  exact PE.imp (pe_make M Fn hr hg hm hb .nil px.pass ha hdb he hpl) fun σ H Q q => tMake_of px.to O.bad σ H Q q
def oMake0 (c : Nat) : DOn := fun ρ => .ok (ρ, .fr (.ins c []))
/-! ### o.f = e -/
def dSetFld (i : Nat) (fp : Nat → Option Nat) (d : DEn) : DSn := fun ρ => (d ρ).bind fun p => match p.1[i]? with
  | some (some (.own t (.ins c xs))) => if fp c = some xs.length ∧ xs.length < 900 then .ok (p.1.set i (some (.own t (.ins c (xs ++ [p.2])))), .nx) else .bad
  | _ => .bad
theorem putF_new {f : Str} {v : V} : ∀ {fs : List (Str × V)}, f ∉ fs.map (·.1) → putF f v fs = fs ++ [(f, v)]
  | [], _ => rfl
  | (g, x) :: r, h => by
    rw [List.map_cons, List.mem_cons, not_or] at h
    unfold putF
    rw [if_neg (fun e => h.1 e.symm), putF_new h.2]
    rfl
theorem ds_setFld {i : Nat} {x f : Str} {e : Expr} {fp : Nat → Option Nat} {d : DEn} {px pa : Pos} (hf : FldOk X.K T f fp) (ho : PE X (.Name x px) (tVar i)) (h : DE X T W e d) (hs : swapsWith e (some (.Attribute (.Name x px) f pa)) pos.line X.env = pure false := by rfl) : DS X T W (.Assign [.Attribute (.Name x px) f pa] e pos) (dSetFld i fp d) := by
  refine PS.imp (ps_fld ho h hs) fun D σ H q => ?_
  obtain ⟨τ, ρ, G, k, q⟩ := q
  refine ⟨τ, ρ, G, k, (OutS.bindE q).imp fun ρ1 r G1 H1 k1 fr1 q1 v rv => ?_⟩
  dsimp only at q1
  split at q1
  · rename_i t c xs h1
    obtain ⟨a, e1, g, ⟨dx, fs, e2, e3, e4⟩, ht⟩ := k1.own i t _ h1
    by_cases hc : fp c = some xs.length ∧ xs.length < 900
    · rw [if_pos hc] at q1
      obtain ⟨f1, f2, f3, f4⟩ := hf c _ hc.1
      have hl : fs.length = xs.length := by
        have := e4.len
        rw [List.length_map] at this
        exact this
      have hlt := (List.getElem?_eq_some_iff.mp f3).1
      have hnew : f ∉ fs.map (·.1) := by
        rw [e3]
        intro hm
        obtain ⟨j, hj⟩ := List.mem_iff_getElem?.mp hm
        have hj2 : j < xs.length := by
          have := (List.getElem?_eq_some_iff.mp hj).1
          rw [List.length_take] at this; omega
        rw [List.getElem?_take_of_lt hj2] at hj
        have := (List.getElem?_inj (by omega) f4).mp (hj.trans f3.symm)
        omega
      refine ⟨_, e1, a, T.cls c, dx, fs, rfl, e2, f1, f2, by omega, ?_⟩
      rw [putF_new hnew]
      obtain ⟨k3, fr3⟩ := k1.updOwn (o' := .ins c (xs ++ [r])) (u := .ins (T.cls c) dx (fs ++ [(f, v)])) h1 e1 g ht ⟨dx, _, upd_same, by
        rw [List.map_append, e3, List.length_append]
        have : (T.lay c).take (xs.length + [r].length) = (T.lay c).take xs.length ++ [f] := by
          rw [List.length_singleton, List.take_add_one, f3]
          rfl
        rw [this]
        rfl, by rw [List.map_append]; exact e4.append (RzL.cons rv RzL.nil)⟩
      exact q1 σ G1 _ k3 (fr1.trans fr3)
    · rw [if_neg hc] at q1; exact q1.elim
  · exact q1.elim
end
end Zd
end
section
/-! Zd 12: a class without __init__ is called; truth by an own __bool__. -/
namespace Zd
open PySem PySem.Spec PyProof.Rows L2
set_option autoImplicit false
/-- C(), no __init__ -/
structure Mk00 (K : PySem.W.Frag) (C : Addr) : Prop where
  makes : PySem.W.makesIn K C = true
  init : PySem.W.findIn K (.ref C) "__init__" = some (some (.builtin "object.__init__"))
  top : PySem.W.mroIn K C (.type "object") = some true
  kp : PySem.W.keepIn K (.ref C) = true
section
variable {X : Cx} {T : Tab} {W : WX} {pos : Pos}
theorem run_make0 {C : Addr} {pins : List (Addr × Obj)} {σ : L2.St} {H : Hp} {s : Shared} {Q : VK} (M : Mk00 X.K C) (I : Inv X pins σ H s)
    (h : ∀ x dx, H x = none → H dx = none → dx ≠ x → Q (.ref x) (upd (upd H dx (.own x)) x (.ins C dx []))) : wpAny (model X.prog X.w) X.A (call (.ref C) []) (EP X pins σ Q) X.xe s := by
  have hq := h (s.heap.objs.size + 1) s.heap.objs.size (I.hok.fresh (Nat.le_succ _)) (I.hok.fresh (Nat.le_refl _)) (Nat.ne_of_lt (Nat.lt_succ_self _))
  have I2 := Inv.made (C := C) I
  refine wpAny_call (make_map0 I.kIn M.makes M.init (fun self => PySem.W.Looks.of_pure (PySem.W.oi_bind _)) ?_)
  have hx : ((s.heap.push PySem.W.emptyDict).push (PySem.W.instObj C s.heap.objs.size)).get? (s.heap.objs.size + 1) = some (PySem.W.instObj C s.heap.objs.size) := by
    have := Heap.get?_push_size (s.heap.push PySem.W.emptyDict) (o := PySem.W.instObj C s.heap.objs.size) rfl
    rwa [Heap.size_push] at this
  have t1 : PySem.W.Looks (model X.prog X.w) ((s.heap.push PySem.W.emptyDict).push (PySem.W.instObj C s.heap.objs.size)) (typeOf (.ref (s.heap.objs.size + 1))) (.ref C) := NwA.type_at hx rfl
  have t2 : PySem.W.Looks (model X.prog X.w) ((s.heap.push PySem.W.emptyDict).push (PySem.W.instObj C s.heap.objs.size)) (isInstance (.ref (s.heap.objs.size + 1)) (.type "object")) true := t1.andThen (PySem.W.looks_mroIn I2.kIn M.top)
  refine codeAny_call_builtin PySem.W.oi_plain PySem.W.entry_oi (@PySem.W.check_slot (model X.prog X.w) _ _ _ "object.__init__" "object" "__init__" (.ref (s.heap.objs.size + 1)) [] [] _ PySem.W.oi_kind PySem.W.oi_split t2 (NwA.oi_args_any _ [] []) ?_)
  rw [PySem.W.oi_run]
  exact wpAny_pure (And.intro rfl ⟨V.ref (s.heap.objs.size + 1), _, I2, rfl, hq⟩)
theorem pe_make00 {C : Addr} {x : Str} {p : Pos} (M : Mk00 X.K C) (hm : X.mg x = some (.ref C)) (hg : Gl X x) (hdb : (x == ("__debug__" : Str)) = false) :
    PE X (.Call (.Name x p) [] [] pos) (fun _ H Q => ∀ x dx, H x = none → H dx = none → dx ≠ x → Q (.ref x) (upd (upd H dx (.own x)) x (.ins C dx []))) := by
  refine ⟨fun pins s σ H Q I h => ?_⟩
  refine wpAny_Call_Name_kw (ld_glob I hg hm ?_ hdb)
  exact PySem.W.callWith_K0 I.kIn M.kp (run_make0 M I h)
theorem do_make0 {c : Nat} {x : Str} {p : Pos} (M : Mk00 X.K (T.cls c)) (hm : X.mg x = some (.ref (T.cls c))) (hg : Gl X x := by rfl) (hdb : (x == ("__debug__" : Str)) = false := by decide) : DO X T W (.Call (.Name x p) [] [] pos) (oMake0 c) := by
  refine PE.imp (pe_make00 M hm hg hdb) fun σ H Q q x dx hx hdx hne => ?_
  obtain ⟨τ, ρ, G, k, q⟩ := q
  have hx2 : upd H dx (HO.own x) x = none := by rw [upd_ne (fun e => hne e.symm)]; exact hx
  have n1 := New.loose (o := HO.own x) k.sub hdx
  have n2 := New.loose (o := HO.ins (T.cls c) dx []) n1.sub hx2
  have n := n1.trans n2
  exact q G _ (k.new n) n.fr _ ⟨x, rfl, k.sub.free hx, ⟨dx, [], upd_same, by simp, by rw [List.map_nil]; exact RzL.nil⟩, fun z => by
    obtain ⟨u, hu⟩ := own_there k z
    rw [hx] at hu; cases hu⟩ fun od e => ⟨x, rfl, hx⟩
/-! ### truth -/
/-- an own __bool__ -/
structure BOk (X : Cx) (T : Tab) (A' : Around) (M : Nat → Option CF) : Prop where
  all : ∀ c F, M c = some F → (∀ bs, bs.length ≠ 1 → F bs = .bad) ∧ ∃ (f : Addr) (fd : FuncData) (ps : List Str) (k : Nat), PySem.W.findIn X.K (.ref (T.cls c)) "__bool__" = some (some (.ref f)) ∧ PySem.W.isFn X.K (.ref f) = true ∧
    FnOk X.prog X.w X.K X.mg X.base (L2.CX X.prog X.w) k f fd ps (spOf X.K T 1 F) ∧ Room k A' ∧ Binds X.K fd ps []
theorem truthy_at {A' : Around} {pins : List (Addr × Obj)} {σ : L2.St} {H : Hp} {s : Shared} {Q : Bool → Hp → Prop} {Ex : Value → Shared → Prop} {a dx C f : Addr} {fs : List (Str × V)} {fd : FuncData} {ps : List Str} {k : Nat} {F : CF} (I : Inv X pins σ H s) (e : H a = some (.ins C dx fs))
    (hs : PySem.W.findIn X.K (.ref C) "__bool__" = some (some (.ref f))) (hf : PySem.W.isFn X.K (.ref f) = true) (Fn : FnOk X.prog X.w X.K X.mg X.base (L2.CX X.prog X.w) k f fd ps (spOf X.K T 1 F)) (hr : Room k A') (he : Env0 X.prog X.w X.K X.mg X.base A' X.stack s H) (hb : Binds X.K fd ps [])
    (q : spOf X.K T 1 F [.ref a] H (fun v H' => ∃ b, v = .bl b ∧ Q b H') E0) : wpAny (model X.prog X.w) A' (truthy (.ref a)) (fun b s' => ∃ H', Inv X pins σ H' s' ∧ Q b H') Ex s := by
  obtain ⟨mA, O, _⟩ := ins_get I.hok e
  obtain ⟨od, J, _⟩ := O.look
  have hl : [Value.ref a].length = ps.length := by rw [← Fn.len _ _ _ _ q]; rfl
  have b := hb s [.ref a] I.kIn (by rw [List.append_nil]; exact hl)
  rw [List.append_nil] at b
  unfold truthy
  refine wpAny_bind (m := callSpecial? (.ref a) (Str.ofString "__bool__")) (PySem.W.special_fn I.kIn J hs (beq_iff_eq.mp hf) (wpAny_call (codeAny_mono (Fn.run A' X.stack s H ⟨[.ref a], []⟩ [.ref a] [.ref a] _ E0 hr he b (.cons rfl .nil) q) fun r s' hq => ?_)))
  cases r with
  | error e =>
    obtain ⟨_, _, _, _, _, _, _, _, _, _, _, _, z⟩ := (show L2.CX X.prog X.w X.stack H s E0 e s' from hq)
    exact z.elim
  | ok fl =>
    cases fl with
    | ret u =>
      obtain ⟨v, H', I3, rv, b, ev, q3⟩ := I.after hq
      subst ev
      cases rv
      exact wpAny_pure ⟨H', I3, q3⟩
    | next => exact False.elim hq
    | brk => exact False.elim hq
    | cont => exact False.elim hq
def truD : D → Option Bool
  | .non => some false
  | .bl b => some b
  | .int i => some (i != 0)
  | .str s => if s.length ≤ 1000000 then some ((s.length : Int) != 0) else none
  | .tup ds => some (!ds.isEmpty)
  | .lst ds => some (!ds.isEmpty)
  | .frz ds => some (!ds.isEmpty)
  | .ins _ _ => none
def dTru (M : Nat → Option CF) (o : DOn) : DTn := fun ρ => (o ρ).bind fun p => match argB p.1 p.2 with
  | some (.val (.ins c xs)) => (match M c with
    | some F => (match F [.val (.ins c xs)] with
      | .ok _ (.bl b) => .ok (p.1, b)
      | _ => .bad)
    | none => .bad)
  | _ => (match (res p.1 p.2).bind truD with
    | some b => .ok (p.1, b)
    | none => .bad)
theorem Ret.new {K : PySem.W.Frag} {G H G' H' : Hp} {vs : List V} {bs : List B} {outs : List (Option OD)} (r : Ret K T G H vs bs outs G' H') (h : ∀ (j t : Nat) (o : OD), bs[j]? ≠ some (.own t o)) : New G H G' H' :=
  ⟨r.gro, fun a o ha => (r.keep a o ha fun ⟨j, t, o', z, _⟩ => h j t o' z).1, r.sub, fun a o ha => (r.keep a o ha fun ⟨j, t, o', z, _⟩ => h j t o' z).2⟩
theorem argB_val {K : PySem.W.Frag} {τ : Nat → Addr} {ρ : Env} {σ : L2.St} {G H : Hp} (k : Ok K T τ ρ σ G H) {o : Op} {d : D} {v : V} (e : argB ρ o = some (.val d)) (r : RpOp K T ρ σ G H v o) : Rz K T G v d := by
  cases o with
  | v d' => cases e; exact r
  | fr o => cases e
  | pl i =>
    have e : ρ[i]?.join = some (B.val d) := e
    have hb : ρ[i]? = some (some (B.val d)) := by
      cases q : ρ[i]? with
      | none => rw [q] at e; cases e
      | some b => rw [q] at e; rw [show b = some (B.val d) from e]
    obtain ⟨v', q1, q2⟩ := k.val i d hb
    have r : σ[i]? = some (some v) := r
    rw [r] at q1; cases q1
    exact q2
theorem truD_of {K : PySem.W.Frag} {G H : Hp} {v : V} {d : D} {b : Bool} (s : Same G H) (r : Rb K T G H v d) (e : truD d = some b) : TruV K v H b := by
  cases d with
  | non => cases e; rw [r.non]; exact rfl
  | bl c => cases e; rw [r.bl]; exact rfl
  | int i => cases e; rw [r.int]; exact rfl
  | str z =>
    unfold truD at e
    dsimp only at e
    by_cases hz : z.length ≤ 1000000
    · rw [if_pos hz] at e; cases e
      rw [r.str]
      exact ⟨Nat.le_trans hz (by rw [sizeLine_eq]; decide), rfl⟩
    · rw [if_neg hz] at e; cases e
  | tup ds =>
    cases e
    obtain ⟨a, xs, rfl, h1, h2⟩ := Rb.tup s r
    exact .inr (.inl ⟨xs, Same.tup s h1.t, by cases xs <;> cases ds <;> first | rfl | (have := h2.len; simp at this)⟩)
  | lst ds =>
    cases e
    obtain ⟨a, xs, rfl, h1, h2⟩ := Rb.lst s r
    exact .inl ⟨xs, SqL.of h1, by cases xs <;> cases ds <;> first | rfl | (have := h2.len; simp at this)⟩
  | frz ds =>
    cases e
    obtain ⟨a, xs, rfl, h1, h2⟩ := Rb.frz s r
    exact .inl ⟨xs, h1, by cases xs <;> cases ds <;> first | rfl | (have := h2.len; simp at this)⟩
  | ins c ds => cases e
/-- truth by T at A' (bool(..): deeper) -/
def tTru {X : Cx} (A' : Around) (M : Nat → Option CF) : V → Hp → (Bool → Hp → Prop) → Prop := fun x H Q => (∃ k, TruV X.K x H k ∧ Q k H) ∨
  ∃ (c : Nat) (F : CF) (a dx : Addr) (fs : List (Str × V)), M c = some F ∧ x = .ref a ∧ H a = some (.ins (T.cls c) dx fs) ∧ spOf X.K T 1 F [.ref a] H (fun v H' => ∃ b, v = .bl b ∧ Q b H') E0
theorem tTru_of {M : Nat → Option CF} {oo : DOn} {A' : Around} (σ : L2.St) (H : Hp) (Q : Bool → Hp → Prop) (q : tTn X.K T W (dTru M oo) σ H Q) : tO X.K T W oo σ H fun x H1 => tTru (X := X) (T := T) A' M x H1 Q := by
  obtain ⟨τ, ρ, G, k, q⟩ := q
  refine ⟨τ, ρ, G, k, (Out.bind q).imp fun ρ1 op G1 H1 k1 fr1 q1 x rv fv => ?_⟩
  dsimp only at q1
  split at q1
  · rename_i c xs h1
    have rz := argB_val k1 h1 rv
    have rz' := rz
    rw [Rz] at rz
    obtain ⟨a, dx, fs, rfl, e2, e3, e4⟩ := rz
    cases hF : M c with
    | none => rw [hF] at q1; exact q1.elim
    | some F =>
      rw [hF] at q1
      dsimp only at q1
      refine .inr ⟨c, F, a, dx, fs, hF, rfl, k1.sub _ _ e2, rfl, G1, [.val (.ins c xs)], k1.sub, ⟨rz', trivial⟩, fun i j t u o p a h => ?_, ?_⟩
      · cases i <;> simp at h
      · split at q1
        · rename_i outs b e
          rw [e]
          intro v G2 H2 r rz2
          rw [Rz] at rz2
          refine ⟨b, rz2, ?_⟩
          have n := r.new fun j t o h => by cases j <;> simp at h
          exact q1 G2 H2 (k1.new n) n.fr
        · exact q1.elim
  · cases e : (res ρ1 op).bind truD with
    | none => rw [e] at q1; exact q1.elim
    | some b =>
      rw [e] at q1
      cases e2 : res ρ1 op with
      | none => rw [e2] at e; cases e
      | some d =>
        rw [e2] at e
        exact .inl ⟨b, truD_of k1.sub (k1.resolve rv e2) e, q1 G1 H1 k1 Fr.refl⟩
theorem truR_T {M : Nat → Option CF} (O : BOk X T X.A M) : TruR X (tTru (X := X) (T := T) X.A M) := by
  intro pins s σ H x v Q I rx h
  rcases h with ⟨k, h1, h2⟩ | ⟨c, F, a, dx, fs, hF, rfl, e, q⟩
  · exact tru_ok pins s σ H x v Q I rx ⟨k, h1, h2⟩
  · obtain ⟨_, f, fd, ps, k, hs, hf, Fn, hr, hb⟩ := O.all c F hF
    cases (show v = Value.ref a from rx)
    exact truthy_at I e hs hf Fn hr I.env0 hb q
theorem dt_tru {e : Expr} {oo : DOn} {M : Nat → Option CF} (O : BOk X T X.A M) (h : DO X T W e oo) (he : ∀ whole, isTrue e X.env whole = (do let v ← whole; standAt e.pos; holding [v] (truthy v)) := by intro _; rfl) : DT X T W e (dTru M oo) := by
  refine ⟨fun pins s σ H Q I q => ?_⟩
  exact isTrue_plain (thn (h.run pins s σ H _ I (tTru_of (A' := X.A) σ H Q q)) fun v s1 ⟨x, H1, I1, r1, q1⟩ => truR_T O pins s1 σ H1 x v Q I1 r1 q1) (he _)
/-! ### bool(x) -/
theorem bool_new_in {prog : Program} {w : World} (x : Value) : MeetsIn prog w (Builtin.«bool.__new__» ⟨[.type "bool", x], []⟩) (fun A R s => wpAny (model prog w) A.in1 (truthy x) (fun b s' => R (.ok (.ret (.bool b))) s') (fun e s' => R (.error e) s') s) :=
  .of_wp fun A R s h => by
    obtain ⟨hp, g, d, tk, os⟩ := s
    have f1 := F.conv_sub_bool
    repeat (any_goals (first | assumption | wp_step))
    exact wpAny_mono (t := truthy x) h (fun b s' hb => wpAny_pure ⟨_, rfl, hb⟩) fun _ _ z => z
def boolV (x : V) (k : Bool) : Prop := (∃ i, x = .int i ∧ k = (i != 0)) ∨ x = .bl k
def boolD : D → Option Bool
  | .bl b => some b
  | .int i => some (i != 0)
  | _ => none
def dBoolC (M : Nat → Option CF) (o : DOn) : DEn := fun ρ => (o ρ).bind fun p => match argB p.1 p.2 with
  | some (.val (.ins c xs)) => (match M c with
    | some F => (match F [.val (.ins c xs)] with
      | .ok _ (.bl b) => .ok (p.1, .bl b)
      | _ => .bad)
    | none => .bad)
  | _ => (match (res p.1 p.2).bind boolD with
    | some b => .ok (p.1, .bl b)
    | none => .bad)
def rBool (X : Cx) (T : Tab) (M : Nat → Option CF) : List V → Hp → VK → Prop := fun xs H Q => ∃ x, xs = [x] ∧ ((∃ k, boolV x k ∧ Q (.bl k) H) ∨
  ∃ (c : Nat) (F : CF) (a dx : Addr) (fs : List (Str × V)), M c = some F ∧ x = .ref a ∧ H a = some (.ins (T.cls c) dx fs) ∧ spOf X.K T 1 F [.ref a] H (fun v H' => ∃ b, v = .bl b ∧ Q (.bl b) H') E0)
theorem call_boolT {M : Nat → Option CF} (O : BOk X T X.A.in1.in1 M) : CallR X (.type "bool") (rBool X T M) := by
  intro pins s σ H xs us Q I r h
  obtain ⟨x, rfl, h⟩ := h
  rcases h with ⟨k, h1, h2⟩ | ⟨c, Fb, a, dx, fs, hF, rfl, e, q⟩
  · refine call_bool1 pins s σ H [x] us Q I r ?_
    rcases h1 with ⟨i, rfl, rfl⟩ | rfl
    · exact .inl ⟨i, rfl, h2⟩
    · exact .inr ⟨k, rfl, h2⟩
  · obtain ⟨u, rfl, rx⟩ := vals1 r
    refine callType_newIn PySem.F.called_bool PySem.F.newNe_bool (PySem.F.typeCall_bool_1 u) (PySem.F.newCall_bool_1 u) (fun obj => PySem.F.args_object_init_2 obj u) PySem.F.entry_bool_new (bool_new_in u) ?_
    have fin : ∀ (b : Bool) (s' : Shared), (∃ H', Inv X pins σ H' s' ∧ Q (.bl b) H') → wants (fun obj s₁ => s₁.TypeIs obj "bool" ∧ EP X pins σ Q obj s₁) X.xe (.ok (.ret (.bool b))) s' := fun b s' ⟨H', I', q⟩ => ⟨rfl, .bl b, H', I', rfl, q⟩
    obtain ⟨_, f, fd, ps, k, hs, hf, Fn, hr, hb⟩ := O.all c Fb hF
    cases (show u = Value.ref a from rx)
    exact wpAny_mono (truthy_at I e hs hf Fn hr I.env0.in1.in1 hb q) fin fun _ _ z => z
theorem de_bool {e : Expr} {oo : DOn} {M : Nat → Option CF} {p : Pos} (O : BOk X T X.A.in1.in1 M) (h : DO X T W e oo) (hm : X.mg "bool" = none) (hg : Gl X "bool" := by rfl)
    (he : starEach [e] X.env = (false, eval e X.env) :: starEach [] X.env := by rfl) (hpl : (backTo pos (starEach [] X.env)).any (·.1) = false := by rfl) : DE X T W (.Call (.Name "bool" p) [e] [] pos) (dBoolC M oo) := by
  refine PE.imp (pe_callTy (call_boolT O) hg hm PyProof.Rows.boot_bool (pa_cons h pa_nil he) (by decide) (by decide) he hpl) fun σ H Q q => ?_
  obtain ⟨τ, ρ, G, k, q⟩ := q
  refine ⟨τ, ρ, G, k, (Out.bind q).imp fun ρ1 op G1 H1 k1 fr1 q1 x rv fv => ⟨x, rfl, ?_⟩⟩
  dsimp only at q1
  split at q1
  · rename_i c xs h1
    have rz := argB_val k1 h1 rv
    have rz' := rz
    rw [Rz] at rz
    obtain ⟨a, dx, fs, rfl, e2, e3, e4⟩ := rz
    cases hF : M c with
    | none => rw [hF] at q1; exact q1.elim
    | some F =>
      rw [hF] at q1
      dsimp only at q1
      refine .inr ⟨c, F, a, dx, fs, hF, rfl, k1.sub _ _ e2, rfl, G1, [.val (.ins c xs)], k1.sub, ⟨rz', trivial⟩, fun i j t u o p a h => ?_, ?_⟩
      · cases i <;> simp at h
      · split at q1
        · rename_i outs b e
          rw [e]
          intro v G2 H2 r rz2
          rw [Rz] at rz2
          refine ⟨b, rz2, ?_⟩
          have n := r.new fun j t o h => by cases j <;> simp at h
          exact q1 G2 H2 (k1.new n) n.fr _ Rz.bl_
        · exact q1.elim
  · cases e : (res ρ1 op).bind boolD with
    | none => rw [e] at q1; exact q1.elim
    | some b =>
      rw [e] at q1
      cases e2 : res ρ1 op with
      | none => rw [e2] at e; cases e
      | some d =>
        rw [e2] at e
        have rb := k1.resolve rv e2
        refine .inl ⟨b, ?_, q1 G1 H1 k1 Fr.refl _ Rz.bl_⟩
        cases d <;> first | (cases e; first | exact .inl ⟨_, rb.int, rfl⟩ | exact .inr rb.bl) | cases e
end
end Zd
end
section
/-! Zd 13: built-ins. -/
namespace Zd
open PySem PySem.Spec PyProof.Rows L2
set_option autoImplicit false
section
variable {X : Cx} {T : Tab} {W : WX} {pos : Pos}
theorem CallR.or {f : Value} {r r' : List V → Hp → VK → Prop} (h : CallR X f r) (h' : CallR X f r') : CallR X f (fun xs H Q => r xs H Q ∨ r' xs H Q) := fun pins s σ H xs us Q I rv q => by
  rcases q with q | q
  · exact h pins s σ H xs us Q I rv q
  · exact h' pins s σ H xs us Q I rv q
theorem Rb.seq' {K : PySem.W.Frag} {G H : Hp} {v : V} {d : D} {ds : List D} (s : Same G H) (r : Rb K T G H v d) (e : isSq d = some ds) : ∃ a xs, v = V.ref a ∧ (SqL K H a xs ∨ SqT K H a xs) ∧ RzL K T G xs ds := by
  cases d with
  | tup es => cases e; obtain ⟨a, xs, rfl, h1, h2⟩ := Rb.tup s r; exact ⟨a, xs, rfl, .inr (Same.tup s h1.t), h2⟩
  | lst es => cases e; obtain ⟨a, xs, rfl, h1, h2⟩ := Rb.lst s r; exact ⟨a, xs, rfl, .inl (SqL.of h1), h2⟩
  | frz es => cases e; obtain ⟨a, xs, rfl, h1, h2⟩ := Rb.frz s r; exact ⟨a, xs, rfl, .inl h1, h2⟩
  | _ => cases e
/-! len -/
def lenD : List D → Option D
  | [d] => match d with
    | .str s => if s.length ≤ 1000000 then some (.int s.length) else none
    | d => (isSq d).map fun ds => .int ds.length
  | _ => none
def rLen2 (K : PySem.W.Frag) : List V → Hp → VK → Prop := fun xs H Q => (∃ p ys, xs = [.ref p] ∧ (SqL K H p ys ∨ SqT K H p ys) ∧ Q (.int ys.length) H) ∨ (∃ z, xs = [.str z] ∧ z.length ≤ sizeLine ∧ Q (.int z.length) H)
theorem call_len2 : CallR X (.builtin "len") (rLen2 X.K) := CallR.or call_len_seq call_len_str
theorem line_le {n : Nat} (h : n ≤ 1000000) : n ≤ sizeLine := by rw [sizeLine_eq]; omega
theorem snd_len {K : PySem.W.Frag} : SndL K T (rLen2 K) lenD := fun vs ds d G H Q s rb e q => by
  unfold lenD at e
  split at e
  · rename_i d0
    obtain ⟨v, rfl, r⟩ := rb.one
    split at e
    · rename_i z
      by_cases hz : z.length ≤ 1000000
      · rw [if_pos hz] at e; cases e
        exact .inr ⟨z, by rw [r.str], line_le hz, q _ G H (New.refl s) Rz.int_⟩
      · rw [if_neg hz] at e; cases e
    · cases h : isSq d0 with
      | none => rw [h] at e; cases e
      | some es =>
        rw [h] at e; cases e
        obtain ⟨a, xs, rfl, h1, h2⟩ := Rb.seq' s r h
        exact .inl ⟨a, xs, rfl, h1, by rw [h2.len]; exact q _ G H (New.refl s) Rz.int_⟩
  · cases e
/-! tuple, list -/
def tupleD : List D → Option D
  | [d] => (isSq d).map .tup
  | _ => none
def rTupleP (K : PySem.W.Frag) : List V → Hp → VK → Prop := fun xs H Q => ∃ p ys, xs = [.ref p] ∧ ((SqL K H p ys ∧ ∀ l (o : Obj), H l = none → o.dict = none → Q (.ref l) (upd H l (.frz o (.tup ys)))) ∨ (SqT K H p ys ∧ Q (.ref p) H))
theorem call_tupleP : CallR X (.type "tuple") (rTupleP X.K) := by
  intro pins s σ H xs us Q I r h
  obtain ⟨p, ys, rfl, h⟩ := h
  obtain ⟨u, rfl, rx⟩ := vals1 r
  cases rx
  rcases h with ⟨hq, q⟩ | ⟨hq, q⟩
  · obtain ⟨its, r', pl, hz⟩ := I.list hq
    have hlen := r'.length
    refine call_tuple_list pl.isList (fun h' kp => ?_) (by simp only [List.size_toArray] <;> omega)
    have I1 : Inv X pins σ H { s with heap := h' } := I.kept (t' := s.toks) kp
    have I2 : Inv X pins σ (upd H h'.objs.size (.frz { cls := .type "tuple", data := .seq its.toArray } (.tup ys))) { s with heap := h'.push { cls := .type "tuple", data := .seq its.toArray } } :=
      I1.laid (t' := s.toks) (fun b o e => Heap.get?_push_of_some _ e) (Nat.le_refl _) (show ObjOk X.prog X.w _ _ _ (.frz _ (.tup ys)) from ⟨Heap.get?_push_size _ rfl, hz, its, r', IsTup.new _ _⟩)
    exact ⟨.ref h'.objs.size, _, I2, rfl, q _ _ (I1.hok.fresh (Nat.le_refl _)) rfl⟩
  · obtain ⟨its, r', pl, hz⟩ := I.tuple hq
    exact call_tuple_same pl ⟨.ref p, H, I, rfl, q⟩
theorem snd_tuple {K : PySem.W.Frag} : SndL K T (rTupleP K) tupleD := fun vs ds d G H Q s rb e q => by
  unfold tupleD at e
  split at e
  · rename_i d'
    obtain ⟨v, rfl, r⟩ := rb.one
    cases d' with
    | tup es => cases e; obtain ⟨a, xs, rfl, h1, h2⟩ := Rb.tup s r; exact ⟨a, xs, rfl, .inr ⟨Same.tup s h1.t, q _ G H (New.refl s) (Rz.tup_ h1 h2)⟩⟩
    | lst es =>
      cases e
      obtain ⟨a, xs, rfl, h1, h2⟩ := Rb.lst s r
      exact ⟨a, xs, rfl, .inl ⟨SqL.of h1, fun l o hl ho => q _ _ _ (New.one s hl) (Rz.tup_ (.inl ⟨o, upd_same, ho⟩) (h2.mono (New.one (o := HO.frz o (.tup xs)) s hl).gro))⟩⟩
    | frz es =>
      cases e
      obtain ⟨a, xs, rfl, h1, h2⟩ := Rb.frz s r
      exact ⟨a, xs, rfl, .inl ⟨h1, fun l o hl ho => q _ _ _ (New.one s hl) (Rz.tup_ (.inl ⟨o, upd_same, ho⟩) (h2.mono (New.one (o := HO.frz o (.tup xs)) s hl).gro))⟩⟩
    | _ => cases e
  · cases e
def listD : List D → Option D
  | [d] => (isSq d).map .lst
  | _ => none
theorem snd_list {K : PySem.W.Frag} : SndL K T (fun xs H Q => ∃ p ys, xs = [.ref p] ∧ (SqL K H p ys ∨ SqT K H p ys) ∧ ∀ l, H l = none → Q (.ref l) (upd H l (.lst ys))) listD := fun vs ds d G H Q s rb e q => by
  unfold listD at e
  split at e
  · rename_i d'
    obtain ⟨v, rfl, r⟩ := rb.one
    cases h : isSq d' with
    | none => rw [h] at e; cases e
    | some es =>
      rw [h] at e; cases e
      obtain ⟨a, xs, rfl, h1, h2⟩ := Rb.seq' s r h
      exact ⟨a, xs, rfl, h1, fun l hl => q _ _ _ (New.one s hl) (Rz.lst_ upd_same (h2.mono (New.one (o := HO.lst xs) s hl).gro))⟩
  · cases e
/-! abs, int, min, max of some ints -/
def absD : List D → Option D
  | [.int i] => some (.int (if i < 0 then -i else i))
  | _ => none
theorem snd_abs {K : PySem.W.Frag} : SndL K T (fun xs H Q => ∃ i, xs = [.int i] ∧ Q (.int (if i < 0 then -i else i)) H) absD := fun vs ds d G H Q s rb e q => by
  unfold absD at e
  split at e
  · obtain ⟨v, rfl, r⟩ := rb.one
    cases e
    exact ⟨_, by rw [r.int], q _ G H (New.refl s) Rz.int_⟩
  · cases e
def intD : List D → Option D
  | [.int i] => some (.int i)
  | [.bl b] => some (.int (if b then 1 else 0))
  | _ => none
theorem snd_int {K : PySem.W.Frag} : SndL K T (fun xs H Q => (∃ i, xs = [.int i] ∧ Q (.int i) H) ∨ ∃ k, xs = [.bl k] ∧ Q (.int (if k then 1 else 0)) H) intD := fun vs ds d G H Q s rb e q => by
  unfold intD at e
  split at e
  · obtain ⟨v, rfl, r⟩ := rb.one
    cases e
    exact .inl ⟨_, by rw [r.int], q _ G H (New.refl s) Rz.int_⟩
  · obtain ⟨v, rfl, r⟩ := rb.one
    cases e
    exact .inr ⟨_, by rw [r.bl], q _ G H (New.refl s) Rz.int_⟩
  · cases e
def max2D : List D → Option D
  | [.int i, .int j] => some (.int (if j > i then j else i))
  | _ => none
theorem snd_max2 {K : PySem.W.Frag} : SndL K T (fun xs H Q => ∃ i j, xs = [.int i, .int j] ∧ Q (.int (if j > i then j else i)) H) max2D := fun vs ds d G H Q s rb e q => by
  unfold max2D at e
  split at e
  · obtain ⟨v, w, rfl, r, r2⟩ := rb.two
    cases e
    exact ⟨_, _, by rw [r.int, r2.int], q _ G H (New.refl s) Rz.int_⟩
  · cases e
def min2D : List D → Option D
  | [.int i, .int j] => some (.int (if j < i then j else i))
  | _ => none
theorem snd_min2 {K : PySem.W.Frag} : SndL K T (fun xs H Q => ∃ i j, xs = [.int i, .int j] ∧ Q (.int (if j < i then j else i)) H) min2D := fun vs ds d G H Q s rb e q => by
  unfold min2D at e
  split at e
  · obtain ⟨v, w, rfl, r, r2⟩ := rb.two
    cases e
    exact ⟨_, _, by rw [r.int, r2.int], q _ G H (New.refl s) Rz.int_⟩
  · cases e
/-! any, all, sum -/
def blsD : List D → Option (List Bool)
  | [] => some []
  | .bl b :: ds => (blsD ds).map (b :: ·)
  | _ => none
theorem bls_rz {K : PySem.W.Frag} {G : Hp} : ∀ {vs : List V} {ds : List D} {bs : List Bool}, RzL K T G vs ds → blsD ds = some bs → vs = bs.map V.bl
  | vs, [], bs, r, e => by cases e; exact r.nil_inv
  | vs, d :: ds, bs, r, e => by
    obtain ⟨v, us, rfl, h1, h2⟩ := r.cons_inv
    cases d with
    | bl b =>
      unfold blsD at e
      cases q : blsD ds with
      | none => rw [q] at e; cases e
      | some cs =>
        rw [q] at e; cases e
        rw [Rz] at h1
        rw [h1, bls_rz h2 q]; rfl
    | _ => cases e
def intsD : List D → Option (List Int)
  | [] => some []
  | .int b :: ds => (intsD ds).map (b :: ·)
  | _ => none
theorem ints_rz {K : PySem.W.Frag} {G : Hp} : ∀ {vs : List V} {ds : List D} {bs : List Int}, RzL K T G vs ds → intsD ds = some bs → vs = bs.map V.int
  | vs, [], bs, r, e => by cases e; exact r.nil_inv
  | vs, d :: ds, bs, r, e => by
    obtain ⟨v, us, rfl, h1, h2⟩ := r.cons_inv
    cases d with
    | int b =>
      unfold intsD at e
      cases q : intsD ds with
      | none => rw [q] at e; cases e
      | some cs =>
        rw [q] at e; cases e
        rw [Rz] at h1
        rw [h1, ints_rz h2 q]; rfl
    | _ => cases e
theorem rz_ints {K : PySem.W.Frag} {G : Hp} : ∀ (ns : List Int), RzL K T G (ns.map V.int) (ns.map D.int)
  | [] => RzL.nil
  | n :: ns => RzL.cons Rz.int_ (rz_ints ns)
def lsOf : D → Option (List D)
  | .lst ds => some ds
  | .frz ds => some ds
  | _ => none
theorem Rb.lsOf {K : PySem.W.Frag} {G H : Hp} {v : V} {d : D} {ds : List D} (s : Same G H) (r : Rb K T G H v d) (e : lsOf d = some ds) : ∃ a xs, v = V.ref a ∧ SqL K H a xs ∧ RzL K T G xs ds := by
  cases d with
  | lst es => cases e; obtain ⟨a, xs, rfl, h1, h2⟩ := Rb.lst s r; exact ⟨a, xs, rfl, SqL.of h1, h2⟩
  | frz es => cases e; obtain ⟨a, xs, rfl, h1, h2⟩ := Rb.frz s r; exact ⟨a, xs, rfl, h1, h2⟩
  | _ => cases e
def anyD : List D → Option D
  | [d] => ((lsOf d).bind blsD).map fun bs => .bl (bs.any id)
  | _ => none
def allD : List D → Option D
  | [d] => ((lsOf d).bind blsD).map fun bs => .bl (bs.all id)
  | _ => none
theorem two_some {α β : Type} {x : Option α} {f : α → Option β} {b : β} (h : x.bind f = some b) : ∃ a, x = some a ∧ f a = some b := by
  cases x with
  | none => exact nomatch (show (none : Option β) = some b from h)
  | some a => exact ⟨a, rfl, h⟩
theorem map_some' {α β : Type} {x : Option α} {f : α → β} {b : β} (h : x.map f = some b) : ∃ a, x = some a ∧ f a = b := by
  cases x with
  | none => cases h
  | some a => cases h; exact ⟨a, rfl, rfl⟩
theorem snd_any {K : PySem.W.Frag} : SndL K T (rAny K) anyD := fun vs ds d G H Q s rb e q => by
  unfold anyD at e
  split at e
  · obtain ⟨v, rfl, r⟩ := rb.one
    obtain ⟨bs, h1, rfl⟩ := map_some' e
    obtain ⟨es, h2, h3⟩ := two_some h1
    obtain ⟨a, xs, rfl, h4, h5⟩ := Rb.lsOf s r h2
    have := bls_rz h5 h3
    subst this
    exact ⟨a, bs, rfl, h4, q _ G H (New.refl s) Rz.bl_⟩
  · cases e
theorem snd_all {K : PySem.W.Frag} : SndL K T (rAll K) allD := fun vs ds d G H Q s rb e q => by
  unfold allD at e
  split at e
  · obtain ⟨v, rfl, r⟩ := rb.one
    obtain ⟨bs, h1, rfl⟩ := map_some' e
    obtain ⟨es, h2, h3⟩ := two_some h1
    obtain ⟨a, xs, rfl, h4, h5⟩ := Rb.lsOf s r h2
    have := bls_rz h5 h3
    subst this
    exact ⟨a, bs, rfl, h4, q _ G H (New.refl s) Rz.bl_⟩
  · cases e
def sumD : List D → Option D
  | [d] => ((lsOf d).bind intsD).map fun ns => .int ns.sum
  | _ => none
theorem snd_sum {K : PySem.W.Frag} : SndL K T (rSum K) sumD := fun vs ds d G H Q s rb e q => by
  unfold sumD at e
  split at e
  · obtain ⟨v, rfl, r⟩ := rb.one
    obtain ⟨bs, h1, rfl⟩ := map_some' e
    obtain ⟨es, h2, h3⟩ := two_some h1
    obtain ⟨a, xs, rfl, h4, h5⟩ := Rb.lsOf s r h2
    have := ints_rz h5 h3
    subst this
    exact ⟨a, bs, rfl, h4, q _ G H (New.refl s) Rz.int_⟩
  · cases e
/-! the largest, the least of a list, a tuple -/
def maxI : Int → List Int → Int
  | m, [] => m
  | m, n :: ns => maxI (if n > m then n else m) ns
def minI : Int → List Int → Int
  | m, [] => m
  | m, n :: ns => minI (if n < m then n else m) ns
theorem maxI_spec : ∀ (ns : List Int) (m : Int), (maxI m ns = m ∨ maxI m ns ∈ ns) ∧ m ≤ maxI m ns ∧ ∀ y ∈ ns, y ≤ maxI m ns
  | [], m => ⟨.inl rfl, Int.le_refl _, fun y h => by cases h⟩
  | n :: ns, m => by
    unfold maxI
    obtain ⟨h1, h2, h3⟩ := maxI_spec ns (if n > m then n else m)
    refine ⟨?_, ?_, fun y hy => ?_⟩
    · rcases h1 with h1 | h1
      · by_cases h : n > m
        · rw [if_pos h] at h1 ⊢; exact .inr (by rw [h1]; exact List.mem_cons_self)
        · rw [if_neg h] at h1 ⊢; exact .inl h1
      · exact .inr (List.mem_cons_of_mem _ h1)
    · by_cases h : n > m
      · rw [if_pos h] at h2 ⊢; omega
      · rw [if_neg h] at h2 ⊢; exact h2
    · rcases List.mem_cons.mp hy with rfl | hy
      · by_cases h : y > m
        · rw [if_pos h] at h2 ⊢; exact h2
        · rw [if_neg h] at h2 ⊢; omega
      · exact h3 y hy
theorem minI_spec : ∀ (ns : List Int) (m : Int), (minI m ns = m ∨ minI m ns ∈ ns) ∧ minI m ns ≤ m ∧ ∀ y ∈ ns, minI m ns ≤ y
  | [], m => ⟨.inl rfl, Int.le_refl _, fun y h => by cases h⟩
  | n :: ns, m => by
    unfold minI
    obtain ⟨h1, h2, h3⟩ := minI_spec ns (if n < m then n else m)
    refine ⟨?_, ?_, fun y hy => ?_⟩
    · rcases h1 with h1 | h1
      · by_cases h : n < m
        · rw [if_pos h] at h1 ⊢; exact .inr (by rw [h1]; exact List.mem_cons_self)
        · rw [if_neg h] at h1 ⊢; exact .inl h1
      · exact .inr (List.mem_cons_of_mem _ h1)
    · by_cases h : n < m
      · rw [if_pos h] at h2 ⊢; omega
      · rw [if_neg h] at h2 ⊢; exact h2
    · rcases List.mem_cons.mp hy with rfl | hy
      · by_cases h : y < m
        · rw [if_pos h] at h2 ⊢; exact h2
        · rw [if_neg h] at h2 ⊢; omega
      · exact h3 y hy
def maxL : List Int → Option Int
  | [] => none
  | n :: ns => some (maxI n ns)
def minL : List Int → Option Int
  | [] => none
  | n :: ns => some (minI n ns)
theorem maxL_of {ns : List Int} {m : Int} (h : maxL ns = some m) : 0 < ns.length ∧ ∀ z, z ∈ ns → (∀ y, y ∈ ns → y ≤ z) → z = m := by
  cases ns with
  | nil => cases h
  | cons n ns =>
    cases h
    obtain ⟨h1, h2, h3⟩ := maxI_spec ns n
    refine ⟨by simp, fun z hz hy => ?_⟩
    have a1 : maxI n ns ≤ z := by
      rcases h1 with h1 | h1
      · rw [h1]; exact hy n List.mem_cons_self
      · exact hy _ (List.mem_cons_of_mem _ h1)
    have a2 : z ≤ maxI n ns := by
      rcases List.mem_cons.mp hz with rfl | hz
      · exact h2
      · exact h3 z hz
    omega
theorem minL_of {ns : List Int} {m : Int} (h : minL ns = some m) : 0 < ns.length ∧ ∀ z, z ∈ ns → (∀ y, y ∈ ns → z ≤ y) → z = m := by
  cases ns with
  | nil => cases h
  | cons n ns =>
    cases h
    obtain ⟨h1, h2, h3⟩ := minI_spec ns n
    refine ⟨by simp, fun z hz hy => ?_⟩
    have a1 : z ≤ minI n ns := by
      rcases h1 with h1 | h1
      · rw [h1]; exact hy n List.mem_cons_self
      · exact hy _ (List.mem_cons_of_mem _ h1)
    have a2 : minI n ns ≤ z := by
      rcases List.mem_cons.mp hz with rfl | hz
      · exact h2
      · exact h3 z hz
    omega
/-- max(xs), min(xs): a list or a tuple of ints -/
def maxD : List D → Option D
  | [d] => (((isSq d).bind intsD).bind maxL).map .int
  | _ => none
def minD : List D → Option D
  | [d] => (((isSq d).bind intsD).bind minL).map .int
  | _ => none
end
section
variable {prog : Program} {w : World} {A : Around} {E : Value → Shared → Prop} {s : Shared} {l : Addr} {its : List Value} {ns : List Int} {xs : Array (Int × Tok)} {Q : Value → Shared → Prop}
theorem iter_intTuple (hl : s.heap.IsTuple l (intItems xs))
    (h : ∀ s₂ : Shared, s₂ = { s with heap := s.heap.push { cls := .type "tuple_iterator", data := .fields #[.ref l, .int 0 0] } } →
      (s₂.heap.IsTupleIter s.heap.objs.size l 0 ∧ s₂.heap.IsTuple l (intItems xs)) → (∀ b ∈ [s.heap.objs.size, l], b < s₂.heap.objs.size) → l ≠ s.heap.objs.size → Q (.ref s.heap.objs.size) s₂) :
    wpAny (model prog w) A (pyIter (.ref l)) Q E s := by
  have hlt : l < s.heap.objs.size := by obtain ⟨_, e, _⟩ := hl; exact Heap.lt_size e
  refine wpAny_pyIter_tuple hl (h _ rfl ⟨⟨_, Heap.get?_push_size _ rfl, rfl, rfl⟩, hl.at fun o e => Heap.get?_push_of_some _ e⟩ (fun b hb => ?_) (Nat.ne_of_lt hlt))
  show b < (s.heap.push _).objs.size
  rw [Heap.size_push]
  rcases List.mem_cons.mp hb with rfl | hb
  · exact Nat.lt_succ_self _
  · rcases List.mem_cons.mp hb with rfl | hb
    · exact Nat.lt_succ_of_lt hlt
    · cases hb
theorem old_keptT {o1 : Obj} {h' : Heap} (hk : ∀ b o, b ∉ [s.heap.objs.size] → (s.heap.push o1).get? b = some o → h'.get? b = some o) :
    ∀ b o, s.heap.get? b = some o → h'.get? b = some o := fun b o e => by
  refine hk b o (fun hm => ?_) (Heap.get?_push_of_some _ e)
  rcases List.mem_cons.mp hm with e1 | hm
  · exact absurd (e1 ▸ Heap.lt_size e) (Nat.lt_irrefl _)
  · cases hm
theorem max_tupRaw (hh : A.handled = none) (hl : s.heap.IsTuple l its.toArray) (hi : IntsAre its ns) (hne : 0 < ns.length)
    (h : ∀ h' tk M t', (∀ b o, s.heap.get? b = some o → h'.get? b = some o) → M ∈ ns → (∀ a, a ∈ ns → a ≤ M) → Q (.int M t') { s with heap := h', toks := tk }) : wpAny (model prog w) A (call (.builtin "max") [.ref l]) Q E s := by
  obtain ⟨xs, e⟩ := hi.allInts.items
  have hn : numsOf (intItems xs).toList = ns := by rw [← e]; exact hi.numsOf
  rw [nums_intItems] at hn
  subst hn
  rw [e] at hl
  have hsz : 0 < xs.size := by simpa using hne
  refine call_max_walk (iter_intTuple hl fun s₂ e st hfp hlI => ?_)
  subst e
  refine ⟨_, _, _, _, _, _, _, rfl, Walks.tuple (A := A.in1) hh _ l hlI (intItems xs), st, hfp, by simpa [intItems] using hsz, CmpOf.ints_gt (numAt xs) (fun _ _ => intItems_at), fun v h' tk hP hk => ?_⟩
  have hP' : (intItems xs)[argBest (fun i j => decide (numAt xs i > numAt xs j)) (xs.size - 1)]? = some v := by simpa [intItems] using hP
  obtain ⟨t, rfl⟩ := intItems_at hP'
  obtain ⟨h1, h2⟩ := argBest_gt (numAt xs) (xs.size - 1)
  refine h h' tk _ t (old_keptT hk) ?_ fun a ha => ?_
  · rw [numAt_eq]; exact PySem.getD_mem (by rw [List.length_map, Array.length_toList]; omega)
  · obtain ⟨j, hj, rfl⟩ := mem_getD ha
    rw [List.length_map, Array.length_toList] at hj
    rw [← numAt_eq]; exact h2 j (by omega)
theorem min_tupRaw (hh : A.handled = none) (hl : s.heap.IsTuple l its.toArray) (hi : IntsAre its ns) (hne : 0 < ns.length)
    (h : ∀ h' tk M t', (∀ b o, s.heap.get? b = some o → h'.get? b = some o) → M ∈ ns → (∀ a, a ∈ ns → M ≤ a) → Q (.int M t') { s with heap := h', toks := tk }) : wpAny (model prog w) A (call (.builtin "min") [.ref l]) Q E s := by
  obtain ⟨xs, e⟩ := hi.allInts.items
  have hn : numsOf (intItems xs).toList = ns := by rw [← e]; exact hi.numsOf
  rw [nums_intItems] at hn
  subst hn
  rw [e] at hl
  have hsz : 0 < xs.size := by simpa using hne
  refine call_min_walk (iter_intTuple hl fun s₂ e st hfp hlI => ?_)
  subst e
  refine ⟨_, _, _, _, _, _, _, rfl, Walks.tuple (A := A.in1) hh _ l hlI (intItems xs), st, hfp, by simpa [intItems] using hsz, CmpOf.ints_lt (numAt xs) (fun _ _ => intItems_at), fun v h' tk hP hk => ?_⟩
  have hP' : (intItems xs)[argBest (fun i j => decide (numAt xs i < numAt xs j)) (xs.size - 1)]? = some v := by simpa [intItems] using hP
  obtain ⟨t, rfl⟩ := intItems_at hP'
  obtain ⟨h1, h2⟩ := argBest_lt (numAt xs) (xs.size - 1)
  refine h h' tk _ t (old_keptT hk) ?_ fun a ha => ?_
  · rw [numAt_eq]; exact PySem.getD_mem (by rw [List.length_map, Array.length_toList]; omega)
  · obtain ⟨j, hj, rfl⟩ := mem_getD ha
    rw [List.length_map, Array.length_toList] at hj
    rw [← numAt_eq]; exact h2 j (by omega)
end
section
variable {X : Cx} {T : Tab} {W : WX} {pos : Pos}
def rMax2 (K : PySem.W.Frag) : List V → Hp → VK → Prop := fun vs H Q => ∃ (a : Addr) (ns : List Int), vs = [V.ref a] ∧ (SqL K H a (ns.map V.int) ∨ SqT K H a (ns.map V.int)) ∧ 0 < ns.length ∧ ∀ m, m ∈ ns → (∀ y, y ∈ ns → y ≤ m) → Q (.int m) H
def rMin2 (K : PySem.W.Frag) : List V → Hp → VK → Prop := fun vs H Q => ∃ (a : Addr) (ns : List Int), vs = [V.ref a] ∧ (SqL K H a (ns.map V.int) ∨ SqT K H a (ns.map V.int)) ∧ 0 < ns.length ∧ ∀ m, m ∈ ns → (∀ y, y ∈ ns → m ≤ y) → Q (.int m) H
theorem call_maxS (hc : X.calm = true) : CallR X (.builtin "max") (rMax2 X.K) := by
  intro pins s σ H vs us Q I r h
  obtain ⟨a, ns, rfl, hs | hs, hne, q⟩ := h
  · exact cr_max hc pins s σ H _ us Q I r ⟨a, ns, rfl, hs, hne, q⟩
  · obtain ⟨its, rv, hl, _⟩ := I.tuple hs
    rw [Vals.ref1 r]
    exact max_tupRaw (I.ok.hd hc) hl rv.ints hne fun h' tk m t' hk h1 h2 => ⟨.int _, H, I.kept hk, ⟨_, rfl⟩, q m h1 h2⟩
theorem call_minS (hc : X.calm = true) : CallR X (.builtin "min") (rMin2 X.K) := by
  intro pins s σ H vs us Q I r h
  obtain ⟨a, ns, rfl, hs | hs, hne, q⟩ := h
  · exact cr_min hc pins s σ H _ us Q I r ⟨a, ns, rfl, hs, hne, q⟩
  · obtain ⟨its, rv, hl, _⟩ := I.tuple hs
    rw [Vals.ref1 r]
    exact min_tupRaw (I.ok.hd hc) hl rv.ints hne fun h' tk m t' hk h1 h2 => ⟨.int _, H, I.kept hk, ⟨_, rfl⟩, q m h1 h2⟩
theorem snd_maxS {K : PySem.W.Frag} : SndL K T (rMax2 K) maxD := fun vs ds d G H Q s rb e q => by
  unfold maxD at e
  split at e
  · obtain ⟨v, rfl, r⟩ := rb.one
    obtain ⟨m, h1, rfl⟩ := map_some' e
    obtain ⟨ns, h2, h3⟩ := two_some h1
    obtain ⟨es, h4, h5⟩ := two_some h2
    obtain ⟨a, xs, rfl, h6, h7⟩ := Rb.seq' s r h4
    have := ints_rz h7 h5
    subst this
    obtain ⟨p1, p2⟩ := maxL_of h3
    exact ⟨a, ns, rfl, h6, p1, fun z hz hy => by rw [p2 z hz hy]; exact q _ G H (New.refl s) Rz.int_⟩
  · cases e
theorem snd_minS {K : PySem.W.Frag} : SndL K T (rMin2 K) minD := fun vs ds d G H Q s rb e q => by
  unfold minD at e
  split at e
  · obtain ⟨v, rfl, r⟩ := rb.one
    obtain ⟨m, h1, rfl⟩ := map_some' e
    obtain ⟨ns, h2, h3⟩ := two_some h1
    obtain ⟨es, h4, h5⟩ := two_some h2
    obtain ⟨a, xs, rfl, h6, h7⟩ := Rb.seq' s r h4
    have := ints_rz h7 h5
    subst this
    obtain ⟨p1, p2⟩ := minL_of h3
    exact ⟨a, ns, rfl, h6, p1, fun z hz hy => by rw [p2 z hz hy]; exact q _ G H (New.refl s) Rz.int_⟩
  · cases e
end
end Zd
end
section
/-! Zd 14: sum(lists, []). -/
namespace Zd
open PySem PySem.Spec PyProof.Rows L2
set_option autoImplicit false
abbrev lsO (its : List Value) (n : Nat) : Obj := { cls := .type "list", dict := none, data := .seq its.toArray n, slots := #[] }
section
variable {prog : Program} {w : World} {A : Around} {R : Result → Shared → Prop} {I : Addr} {fp wr : List Addr} {n : Nat} {P : Nat → Value → Prop} {St : Nat → Heap → Prop}
def preCat (B : Nat → List Value) : Nat → List Value
  | 0 => []
  | j + 1 => preCat B j ++ B j
theorem code_sumL (W : Walks prog w A.in1 I fp wr n P St) (B : Nat → List Value) (S : Addr) (hSf : S ∉ fp) (hz : ∀ j, j ≤ n → (preCat B j).length ≤ 1000000) (hzB : ∀ j, j < n → (B j).length ≤ 1000000) (hex : ∀ i h, St i h → ∀ b ∈ fp, ∃ o, h.get? b = some o) :
    ∀ (k i : Nat) (s : Shared) (c p m : Nat), n - i = k → i ≤ n → St i s.heap → s.heap.get? S = some (lsO [.ref p] c) → s.heap.get? p = some (lsO (preCat B i) m) → p ∉ wr → p ≠ S →
    (∀ j v, i ≤ j → P j v → ∃ b m, v = .ref b ∧ b ∉ wr ∧ b ≠ S ∧ s.heap.get? b = some (lsO (B j) m)) →
    (∀ h' tk q m', (∀ b o, b ∉ wr → b ≠ S → s.heap.get? b = some o → h'.get? b = some o) → h'.get? q = some (lsO (preCat B n) m') → (q = p ∨ s.heap.get? q = none) → R (.ok (.ret (.ref q))) { s with heap := h', toks := tk }) →
    codeAny (model prog w) A (.builtin "sum.loop" ⟨[.ref I, .ref S, rawInt 2, rawInt 0], []⟩) R s := by
  have hSw : S ∉ wr := fun h => hSf (W.sub _ h)
  intro k
  induction k with
  | zero =>
    intro i s c p m hk hi hst hS hp hpw hpS hB hR
    have hin : i = n := by omega
    subst hin
    refine codeAny_builtin F.entry_sum_loop ?_
    rw [Around.under_plainId F.plain_sum_loop _]
    show wpAny _ A.in1 (seqItems? (.ref S) >>= _) _ _ s
    refine wpAny_bind (wpAny_seqItems hS rfl ?_)
    show wpAny _ A.in1 (tryCatch (pyNext (.ref I)) _ >>= _) _ _ s
    refine wpAny_bind (wpAny_tryCatch (W.done s _ _ hst fun h' tk hk' => ?_))
    exact wpAny_pure (hR h' tk p m (fun b o hbw _ e => hk' b o hbw e) (hk' p _ hpw hp) (.inl rfl))
  | succ k ih =>
    intro i s c p m hk hi hst hS hp hpw hpS hB hR
    have hlt : i < n := by omega
    refine codeAny_builtin F.entry_sum_loop ?_
    rw [Around.under_plainId F.plain_sum_loop _]
    show wpAny _ A.in1 (seqItems? (.ref S) >>= _) _ _ s
    refine wpAny_bind (wpAny_seqItems hS rfl ?_)
    show wpAny _ A.in1 (tryCatch (pyNext (.ref I)) _ >>= _) _ _ s
    refine wpAny_bind (wpAny_tryCatch (W.item i s _ _ hlt hst fun v h' tk hP hst' hk' => ?_))
    obtain ⟨b, mb, rfl, hbw, hbS, hb⟩ := hB i v (Nat.le_refl _) hP
    have hS' := hk' S _ hSw hS
    have hp' := hk' p _ hpw hp
    have hb' := hk' b _ hbw hb
    show wpAny _ A.in1 ((holding [Value.ref b] (binaryOp .Add (.ref p) (.ref b))).attempt >>= _) _ _ _
    refine wpAny_bind (wpAny_attempt (wpAny_holding (PySem.P.add_list (n := m) (n2 := mb) hp' hb' ?_ (by have := hz i hi; have := hzB i hlt; rw [sizeLine_eq]; simp only [List.size_toArray]; omega))))
    have ea : (preCat B i).toArray ++ (B i).toArray = (preCat B (i + 1)).toArray := by simp [preCat]
    rw [ea]
    have kp : ∀ b o, h'.get? b = some o → (h'.push { cls := .type "list", data := .seq (preCat B (i + 1)).toArray }).get? b = some o := fun b o e => Heap.get?_push_of_some _ e
    have hS2 := kp _ _ hS'
    have hnew : (h'.push { cls := .type "list", data := .seq (preCat B (i + 1)).toArray }).get? h'.objs.size = some (lsO (preCat B (i + 1)) 0) := Heap.get?_push_size _ rfl
    show wpAny _ A.in1 (updateSeq S (fun _ => #[Value.ref h'.objs.size]) >>= _) _ _ _
    refine wpAny_bind (wpAny_updateSeq hS2 rfl ?_)
    have hS₂ := Heap.get?_update_self (Obj.mapSeq fun _ => #[Value.ref h'.objs.size]) hS2 rfl
    refine wpAny_bind (wpAny_letGo ?_)
    have ne : S ≠ h'.objs.size := Nat.ne_of_lt (Heap.lt_size hS')
    have oth : ∀ b o, b ≠ S → h'.get? b = some o → (((h'.push { cls := .type "list", data := .seq (preCat B (i + 1)).toArray }).update S (Obj.mapSeq fun _ => #[Value.ref h'.objs.size])).update S (Obj.mapSeq fun _ => #[Value.ref h'.objs.size])).get? b = some o := fun b o hbS e =>
      (Heap.get?_update_other _ _ (Ne.symm hbS)).trans ((Heap.get?_update_other _ _ (Ne.symm hbS)).trans (kp _ _ e))
    refine wpAny_bind (wpAny_updateSeq hS₂ rfl (wpAny_pure ⟨plainId_quiet F.plain_sum_loop _, ih (i + 1) _ _ h'.objs.size 0 (by omega) hlt (W.frame _ _ _ hst' fun b hb o e => ?_) (Heap.get?_update_self _ hS₂ rfl) ?_ ?_ ?_ ?_ ?_⟩))
    · exact oth b o (fun h : b = S => hSf (by rw [← h]; exact hb)) e
    · exact (Heap.get?_update_other _ _ ne).trans ((Heap.get?_update_other _ _ ne).trans hnew)
    · intro hm
      obtain ⟨o, ho⟩ := hex _ _ hst' _ (W.sub _ hm)
      exact absurd (Heap.lt_size ho) (Nat.lt_irrefl _)
    · exact Ne.symm ne
    · intro j v hj hPj
      obtain ⟨b, mb, e1, e2, e3, e4⟩ := hB j v (by omega) hPj
      exact ⟨b, mb, e1, e2, e3, oth b _ e3 (hk' b _ e2 e4)⟩
    · intro h'' tk'' q m' hk'' hq hqq
      refine hR h'' tk'' q m' (fun b o hbw hbS e => hk'' b o hbw hbS (oth b o hbS (hk' b o hbw e))) hq (.inr ?_)
      rcases hqq with rfl | hqq
      · cases e : s.heap.get? h'.objs.size with
        | none => rfl
        | some o =>
          by_cases hw : h'.objs.size ∈ wr
          · obtain ⟨o, ho⟩ := hex _ _ hst' _ (W.sub _ hw)
            exact absurd (Heap.lt_size ho) (Nat.lt_irrefl _)
          · exact absurd (Heap.lt_size (hk' _ _ hw e)) (Nat.lt_irrefl _)
      · cases e : s.heap.get? q with
        | none => rfl
        | some o =>
          exfalso
          by_cases hS0 : q = S
          · subst hS0
            rw [Heap.get?_update_self _ hS₂ rfl] at hqq
            cases hqq
          · by_cases hw : q ∈ wr
            · obtain ⟨o, ho⟩ := hex _ _ hst' _ (W.sub _ hw)
              rw [oth q o hS0 ho] at hqq; cases hqq
            · rw [oth q o hS0 (hk' _ _ hw e)] at hqq; cases hqq
end
section
variable {prog : Program} {w : World} {A : Around} {E : Value → Shared → Prop} {s : Shared}
theorem args_sum2 (a b : Value) : argsOk "sum" ⟨[a, b], []⟩ := by unfold argsOk; kernel_rfl
theorem sub_list_str : isSubtype (.type "list") (.type "str") = pure false := by rw [isSubtype_type]; kernel_rfl
theorem sub_list_bytes : isSubtype (.type "list") (.type "bytes") = pure false := by rw [isSubtype_type]; kernel_rfl
theorem sub_list_bytearray : isSubtype (.type "list") (.type "bytearray") = pure false := by rw [isSubtype_type]; kernel_rfl
theorem call_sumL {l p : Addr} {items : Array Value} {m : Nat} {B : Nat → List Value} {Q : Value → Shared → Prop} (hh : A.in1.handled = none) (hl : s.heap.IsList l items) (hp : s.heap.get? p = some (lsO [] m)) (hz : ∀ j, j ≤ items.size → (preCat B j).length ≤ 1000000) (hzB : ∀ j, j < items.size → (B j).length ≤ 1000000)
    (hB : ∀ j v, items[j]? = some v → ∃ b m, v = .ref b ∧ s.heap.get? b = some (lsO (B j) m))
    (h : ∀ h' tk q m', (∀ b o, s.heap.get? b = some o → h'.get? b = some o) → h'.get? q = some (lsO (preCat B items.size) m') → (q = p ∨ s.heap.get? q = none) → Q (.ref q) { s with heap := h', toks := tk }) :
    wpAny (model prog w) A (call (.builtin "sum") [.ref l, .ref p]) Q E s := by
  have ltOf : ∀ b o, s.heap.get? b = some o → b < s.heap.objs.size := fun b o e => Heap.lt_size e
  have hlt : l < s.heap.objs.size := by obtain ⟨_, e, _⟩ := hl; exact Heap.lt_size e
  refine call_function_tree F.kind_sum F.plain_sum F.entry_sum (args_sum2 _ _) ?_
  unfold Builtin.«sum»
  simp only [List.length_cons, List.length_nil]
  rw [if_neg (by decide)]
  refine wpAny_bind (wpAny_of_eq (show Builtin.Builtins.bindParams "sum" ["start"] 0 ⟨[.ref p], []⟩ = pure [some (.ref p)] from rfl) ?_)
  refine wpAny_bind (wpAny_pyIter_list hl ?_)
  have k1 : ∀ b o, s.heap.get? b = some o → (s.heap.push { cls := .type "list_iterator", data := .fields #[.ref l, .int 0 0] }).get? b = some o := fun b o e => Heap.get?_push_of_some _ e
  have hp1 := k1 _ _ hp
  refine wpAny_bind (wpAny_pure ?_)
  simp only [List.forIn_cons, List.forIn_nil]
  have hT : ∀ t, ({ s with heap := s.heap.push { cls := .type "list_iterator", data := .fields #[.ref l, .int 0 0] }, toks := t } : Shared).TypeIs (.ref p) "list" := fun t => ⟨_, hp1, rfl⟩
  refine wpAny_bind (wpAny_bind (wpAny_bind (wpAny_isInstance (T := "list") (b := false) (hT _) sub_list_str ?_)))
  simp only [Bool.false_eq_true, if_false]
  refine wpAny_pure (wpAny_bind (wpAny_bind (wpAny_isInstance (T := "list") (b := false) (hT _) sub_list_bytes ?_)))
  simp only [Bool.false_eq_true, if_false]
  refine wpAny_pure (wpAny_bind (wpAny_bind (wpAny_isInstance (T := "list") (b := false) (hT _) sub_list_bytearray ?_)))
  simp only [Bool.false_eq_true, if_false]
  refine wpAny_pure (wpAny_pure ?_)
  refine wpAny_bind (wpAny_newObj_type ?_)
  have hsz : (s.heap.push { cls := .type "list_iterator", data := .fields #[.ref l, .int 0 0] }).objs.size = s.heap.objs.size + 1 := Heap.size_push ..
  have W := Walks.list (prog := prog) (w := w) (A := A.in1) hh s.heap.objs.size l (Nat.ne_of_lt hlt) items
  have k2 : ∀ b o, s.heap.get? b = some o → ((s.heap.push { cls := .type "list_iterator", data := .fields #[.ref l, .int 0 0] }).push { cls := .type "list", data := .seq #[.ref p] }).get? b = some o := fun b o e => Heap.get?_push_of_some _ (k1 b o e)
  have inI : ((s.heap.push { cls := .type "list_iterator", data := .fields #[.ref l, .int 0 0] }).push { cls := .type "list", data := .seq #[.ref p] }).get? s.heap.objs.size = some { cls := .type "list_iterator", data := .fields #[.ref l, .int 0 0] } := Heap.get?_push_of_some _ (Heap.get?_push_size _ rfl)
  have neI : ∀ b o, s.heap.get? b = some o → b ≠ s.heap.objs.size := fun b o e => Nat.ne_of_lt (ltOf b o e)
  have neS : ∀ b o, s.heap.get? b = some o → b ≠ (s.heap.push { cls := .type "list_iterator", data := .fields #[.ref l, .int 0 0] }).objs.size := fun b o e => by
    rw [hsz]; exact Nat.ne_of_lt (Nat.lt_succ_of_lt (ltOf b o e))
  have hlo : ∃ o, s.heap.get? l = some o := by obtain ⟨o, e, _⟩ := hl; exact ⟨o, e⟩
  obtain ⟨lo, hlo⟩ := hlo
  refine wpAny_pure ⟨plainId_quiet F.plain_sum_loop _, code_sumL W B ((s.heap.push { cls := .type "list_iterator", data := .fields #[.ref l, .int 0 0] }).objs.size) ?_ hz hzB ?_ items.size 0 _ 0 p m rfl (Nat.zero_le _) ?_ ?_ ?_ ?_ ?_ ?_ ?_⟩
  · intro hm
    rcases List.mem_cons.mp hm with e | hm
    · rw [hsz] at e; exact absurd e (Nat.succ_ne_self _)
    · rcases List.mem_cons.mp hm with e | hm
      · exact neS _ _ hlo e.symm
      · cases hm
  · intro i h st b hb
    rcases List.mem_cons.mp hb with e | hb
    · obtain ⟨o, ho, _⟩ := st.1; exact ⟨o, e ▸ ho⟩
    · rcases List.mem_cons.mp hb with e | hb
      · obtain ⟨o, ho, _⟩ := st.2; exact ⟨o, e ▸ ho⟩
      · cases hb
  · exact ⟨⟨_, inI, rfl, rfl⟩, hl.at fun o e => k2 _ _ e⟩
  · exact Heap.get?_push_size (s.heap.push { cls := .type "list_iterator", data := .fields #[.ref l, .int 0 0] }) (o := { cls := .type "list", data := .seq #[.ref p] }) rfl
  · exact k2 _ _ hp
  · intro hm
    rcases List.mem_cons.mp hm with e | hm
    · exact neI _ _ hp e
    · cases hm
  · exact neS _ _ hp
  · intro j v _ hv
    obtain ⟨b, mb, e1, e2⟩ := hB j v hv
    refine ⟨b, mb, e1, ?_, neS _ _ e2, k2 _ _ e2⟩
    intro hm
    rcases List.mem_cons.mp hm with e | hm
    · exact neI _ _ e2 e
    · cases hm
  · intro h' tk q m' hk hq hqq
    refine h h' tk q m' (fun b o e => hk b o ?_ (neS _ _ e) (k2 _ _ e)) hq ?_
    · intro hm
      rcases List.mem_cons.mp hm with e1 | hm
      · exact neI _ _ e e1
      · cases hm
    · rcases hqq with e | hqq
      · exact .inl e
      · right
        cases e : s.heap.get? q with
        | none => rfl
        | some o => rw [k2 _ _ e] at hqq; cases hqq
end
section
variable {X : Cx} {T : Tab} {W : WX} {pos : Pos}
def rSumL (K : PySem.W.Frag) : List V → Hp → VK → Prop := fun vs H Q => ∃ (l p : Addr) (ls : List Addr) (Bs : List (List V)), vs = [.ref l, .ref p] ∧ SqL K H l (ls.map V.ref) ∧ ls.length = Bs.length ∧ H p = some (.lst []) ∧ Bs.flatten.length ≤ 1000000 ∧
  (∀ (j : Nat) a b, ls[j]? = some a → Bs[j]? = some b → H a = some (.lst b)) ∧ (Bs.flatten = [] → Q (.ref p) H) ∧ ∀ q, H q = none → Q (.ref q) (upd H q (.lst Bs.flatten))
theorem preCat_flat {B : Nat → List Value} : ∀ (Bs : List (List Value)), (∀ (j : Nat) b, Bs[j]? = some b → B j = b) → ∀ n, n ≤ Bs.length → preCat B n = (Bs.take n).flatten
  | Bs, h, 0, _ => by simp [preCat]
  | Bs, h, n + 1, hn => by
    unfold preCat
    have hlt : n < Bs.length := hn
    have e : Bs.take (n + 1) = Bs.take n ++ [Bs[n]] := by rw [List.take_add_one, List.getElem?_eq_getElem hlt]; rfl
    rw [preCat_flat Bs h n (by omega), h n _ (List.getElem?_eq_getElem hlt), e, List.flatten_append, List.flatten_cons, List.flatten_nil, List.append_nil]
theorem lists_at {pins : List (Addr × Obj)} {σ : L2.St} {H : Hp} {s : Shared} (I : Inv X pins σ H s) : ∀ (ls : List Addr) (Bs : List (List V)), ls.length = Bs.length → (∀ (j : Nat) a b, ls[j]? = some a → Bs[j]? = some b → H a = some (.lst b)) →
    ∃ Is : List (List Value), Is.length = ls.length ∧ (∀ (j : Nat) a, ls[j]? = some a → ∃ it m, Is[j]? = some it ∧ s.heap.get? a = some (lsO it m)) ∧ Vals Bs.flatten Is.flatten
  | [], [], _, _ => ⟨[], rfl, fun j a e => by simp at e, by simpa using Paired.nil⟩
  | [], _ :: _, h, _ => by cases h
  | _ :: _, [], h, _ => by cases h
  | a :: ls, b :: Bs, hl, hB => by
    obtain ⟨Is, h1, h2, h3⟩ := lists_at I ls Bs (by simpa using hl) fun j a' b' e1 e2 => hB (j + 1) a' b' (by simpa using e1) (by simpa using e2)
    obtain ⟨z, its, n, r, hl2, e⟩ := I.lstM (hB 0 a b rfl rfl)
    refine ⟨its :: Is, by simp [h1], fun j a' e' => ?_, by rw [List.flatten_cons, List.flatten_cons]; exact r.append h3⟩
    cases j with
    | zero => simp at e'; subst e'; exact ⟨its, n, rfl, e⟩
    | succ j =>
      obtain ⟨it, m, e1, e2⟩ := h2 j a' (by simpa using e')
      exact ⟨it, m, by simpa using e1, e2⟩
theorem flat_take_le {α : Type} : ∀ (L : List (List α)) (j : Nat), ((L.take j).flatten).length ≤ L.flatten.length
  | [], j => by simp
  | a :: L, 0 => by simp
  | a :: L, j + 1 => by
    rw [List.take_succ_cons, List.flatten_cons, List.flatten_cons, List.length_append, List.length_append]
    have := flat_take_le L j
    omega
theorem flat_get_le {α : Type} : ∀ (L : List (List α)) (j : Nat) (a : List α), L[j]? = some a → a.length ≤ L.flatten.length
  | [], j, a, h => by simp at h
  | b :: L, 0, a, h => by simp at h; subst h; rw [List.flatten_cons, List.length_append]; omega
  | b :: L, j + 1, a, h => by
    have := flat_get_le L j a (by simpa using h)
    rw [List.flatten_cons, List.length_append]; omega
theorem call_sumLC (hc : X.calm = true) : CallR X (.builtin "sum") (rSumL X.K) := by
  intro pins s σ H vs us Q I r h
  obtain ⟨l, p, ls, Bs, rfl, hs, hl, hp, hz, hB, q1, q2⟩ := h
  obtain ⟨u1, u2, rfl, r1, r2⟩ := vals2 r
  cases (show u1 = Value.ref l from r1)
  cases (show u2 = Value.ref p from r2)
  obtain ⟨its, rv, hL, _⟩ := I.list hs
  obtain ⟨_, ip, n, rp, lp, ep⟩ := I.lstM hp
  have hip : ip = [] := by cases ip with
    | nil => rfl
    | cons a b => simp at lp
  subst hip
  obtain ⟨Is, h1, h2, h3⟩ := lists_at I ls Bs hl hB
  have hlen : Is.flatten.length = Bs.flatten.length := h3.length.symm
  have hits : its.length = Is.length := by rw [h1, ← rv.length, List.length_map]
  have hpre : ∀ j, j ≤ its.toArray.size → preCat (fun j => (Is[j]?).getD []) j = (Is.take j).flatten := fun j hj => preCat_flat Is (fun j b e => by show (Is[j]?).getD [] = b; rw [e]; rfl) j (by rw [List.size_toArray, hits] at hj; exact hj)
  refine call_sumL (A := X.A) (B := fun j => (Is[j]?).getD []) (I.ok.hd hc) hL.isList ep (fun j hj => ?_) (fun j hj => ?_) (fun j v hv => ?_) fun h' tk q m' hk hq hqq => ?_
  · rw [hpre j hj]
    have := flat_take_le Is j
    omega
  · have hj' : j < Is.length := by rw [List.size_toArray, hits] at hj; exact hj
    have := flat_get_le Is j Is[j] (List.getElem?_eq_getElem hj')
    show ((Is[j]?).getD []).length ≤ _
    rw [List.getElem?_eq_getElem hj']
    show (Is[j]).length ≤ _
    omega
  · have hv' : its[j]? = some v := by simpa using hv
    have hj : j < ls.length := by
      have := (List.getElem?_eq_some_iff.mp hv').1
      rw [hits, h1] at this; exact this
    obtain ⟨w, e1, e2⟩ := rv.get (i := j) (x := V.ref ls[j]) (by rw [List.getElem?_map, List.getElem?_eq_getElem hj]; rfl)
    rw [hv'] at e1; cases e1
    obtain ⟨it, m, e3, e4⟩ := h2 j ls[j] (List.getElem?_eq_getElem hj)
    exact ⟨ls[j], m, e2, by show s.heap.get? ls[j] = some (lsO ((Is[j]?).getD []) m); rw [e3]; exact e4⟩
  · rw [hpre _ (Nat.le_refl _), List.size_toArray, hits, List.take_length] at hq
    rcases hqq with rfl | hqq
    · have e := hk _ _ ep
      rw [hq] at e
      have hnil : Is.flatten = [] := by
        have e2 : (lsO Is.flatten m') = lsO [] n := Option.some.inj e
        have e3 : Is.flatten.toArray = ([] : List Value).toArray := by injection e2 with _ _ e2; injection e2
        simpa using e3
      have hB0 : Bs.flatten = [] := List.eq_nil_of_length_eq_zero (by rw [← hlen, hnil]; rfl)
      exact ⟨.ref q, H, I.kept hk, rfl, q1 hB0⟩
    · have hn : H q = none := I.hok.gone hqq
      refine ⟨.ref q, upd H q (.lst Bs.flatten), ?_, rfl, q2 q hn⟩
      exact I.un (Un.laidN hk hqq hn) (HOk.laidN I.hok hk hn ⟨line_le hz, Is.flatten, m', h3, hq⟩)
/-- operands that stand for ever -/
def dLV (f : List D → Option D) (a : DAn) : DEn := fun ρ => (a ρ).bind fun p => match (vals p.2).bind f with
  | some d => .ok (p.1, d)
  | none => .bad
def SndV (K : PySem.W.Frag) (T : Tab) (r : List V → Hp → VK → Prop) (f : List D → Option D) : Prop :=
  ∀ (vs : List V) (ds : List D) (d : D) (G H : Hp) (Q : VK), Same G H → RzL K T G vs ds → f ds = some d → (∀ v G' H', New G H G' H' → Rz K T G' v d → Q v H') → r vs H Q
theorem tCBV_of {r : List V → Hp → VK → Prop} {f : List D → Option D} {a : DAn} (hs : SndV X.K T r f) (σ : L2.St) (H : Hp) (Q : VK) (q : tE X.K T W (dLV f a) σ H Q) : tCB r (tA X.K T W a) σ H Q := by
  obtain ⟨τ, ρ, G, k, q⟩ := q
  refine ⟨τ, ρ, G, k, (Out.bind q).imp fun ρ1 ops G1 H1 k1 fr1 q1 vs rvs fvs => ?_⟩
  dsimp only at q1
  split at q1
  · rename_i d h1
    obtain ⟨ds, h2, h3⟩ := two_some h1
    exact hs vs ds d G1 H1 Q k1.sub (rz_vals rvs h2) h3 fun z G3 H3 n rz => q1 G3 H3 (k1.new n) n.fr z rz
  · exact q1.elim
theorem de_callBV {x : Str} {id : String} {r : List V → Hp → VK → Prop} {f : List D → Option D} {e : Expr} {es : List Expr} {a : DAn} {p : Pos} (hs : SndV X.K T r f) (hc : CallR X (.builtin id) r) (ha : DA X T W (e :: es) a) (hm : X.mg x = none)
    (hv : bootBuiltins x = some (.builtin id)) (hg : Gl X x := by rfl) (hn : x ≠ "__name__" := by decide) (hdb : (x == ("__debug__" : Str)) = false := by decide)
    (he : starEach (e :: es) X.env = (false, eval e X.env) :: starEach es X.env := by rfl) (hpl : (backTo pos (starEach es X.env)).any (·.1) = false := by rfl) : DE X T W (.Call (.Name x p) (e :: es) [] pos) (dLV f a) :=
  PE.imp (pe_callB hc hg hm hv ha hn hdb he hpl) fun σ H Q q => tCBV_of hs σ H Q q
def listsD : List D → Option (List (List D))
  | [] => some []
  | .lst ds :: r => (listsD r).map (ds :: ·)
  | _ => none
def sumLD : List D → Option D
  | [.lst ds, .lst []] => (listsD ds).bind fun Ls => if Ls.flatten.length ≤ 1000000 then some (.lst Ls.flatten) else none
  | _ => none
theorem lists_rz {K : PySem.W.Frag} {G : Hp} : ∀ {vs : List V} {ds : List D} {Ls : List (List D)}, RzL K T G vs ds → listsD ds = some Ls →
    ∃ (ls : List Addr) (Bs : List (List V)), vs = ls.map V.ref ∧ ls.length = Bs.length ∧ (∀ (j : Nat) a b, ls[j]? = some a → Bs[j]? = some b → G a = some (.lst b)) ∧ RzL K T G Bs.flatten Ls.flatten
  | vs, [], Ls, r, e => by
    cases e
    cases r.nil_inv
    exact ⟨[], [], rfl, rfl, fun j a b e => by simp at e, RzL.nil⟩
  | vs, d :: ds, Ls, r, e => by
    obtain ⟨v, us, rfl, h1, h2⟩ := r.cons_inv
    cases d with
    | lst es =>
      unfold listsD at e
      cases q : listsD ds with
      | none => rw [q] at e; cases e
      | some L2 =>
        rw [q] at e; cases e
        obtain ⟨ls, Bs, rfl, h3, h4, h5⟩ := lists_rz h2 q
        rw [Rz] at h1
        obtain ⟨a, xs, rfl, h6, h7⟩ := h1
        refine ⟨a :: ls, xs :: Bs, rfl, by simp [h3], fun j a' b' e1 e2 => ?_, by rw [List.flatten_cons, List.flatten_cons]; exact h7.append h5⟩
        cases j with
        | zero => simp at e1 e2; subst e1 e2; exact h6
        | succ j => exact h4 j a' b' (by simpa using e1) (by simpa using e2)
    | _ => cases e
theorem snd_sumL {K : PySem.W.Frag} : SndV K T (rSumL K) sumLD := fun vs ds d G H Q s rb e q => by
  unfold sumLD at e
  split at e
  · rename_i ds'
    obtain ⟨v, w, rfl, r1, r2⟩ := rb.two
    obtain ⟨Ls, h1, h2⟩ := two_some e
    by_cases hz : Ls.flatten.length ≤ 1000000
    · rw [if_pos hz] at h2; cases h2
      rw [Rz] at r1 r2
      obtain ⟨l, xs, rfl, h3, h4⟩ := r1
      obtain ⟨p, ys, rfl, h5, h6⟩ := r2
      cases h6.nil_inv
      obtain ⟨ls, Bs, rfl, h7, h8, h9⟩ := lists_rz h4 h1
      refine ⟨l, p, ls, Bs, rfl, SqL.of (s _ _ h3), h7, s _ _ h5, by rw [h9.len]; exact hz, fun j a b e1 e2 => s _ _ (h8 j a b e1 e2), fun hnil => ?_, fun z hz' => q _ _ _ (New.one s hz') (Rz.lst_ upd_same (h9.mono (New.one (o := HO.lst Bs.flatten) s hz').gro))⟩
      have : Ls.flatten = [] := List.eq_nil_of_length_eq_zero (by rw [← h9.len, hnil]; rfl)
      rw [this] at q
      exact q _ G H (New.refl s) (Rz.lst_ h5 RzL.nil)
    · rw [if_neg hz] at h2; cases h2
  · cases e
end
end Zd
end
section
/-! Zd 15: tuples' methods, tuple * int, min and max of three, sorted(set(..)). -/
namespace Zd
open PySem PySem.Spec PyProof.Rows L2
set_option autoImplicit false
section
variable {X : Cx} {T : Tab} {W : WX} {pos apos cpos : Pos}
/-! ### methods of tuples -/
def tTM (K : PySem.W.Frag) (r : V → List V → Hp → VK → Prop) (to : TE) (t : TA) : TE := fun σ H Q => to σ H fun x H1 => (∃ a xs, x = .ref a ∧ SqP K H1 a xs) ∧ t σ H1 fun vs H2 => r x vs H2 Q
theorem sqP_obj {pins : List (Addr × Obj)} {σ : L2.St} {H : Hp} {s : Shared} {a : Addr} {xs : List V} (I : Inv X pins σ H s) (h : SqP X.K H a xs) : s.TypeIs (.ref a) "tuple" ∧ ∃ ob, s.heap.get? a = some ob ∧ ob.dict = none := by
  rcases h with ⟨o, h, hd⟩ | ⟨o, its, n, h1, hd, hc, _⟩
  · obtain ⟨e, _, its, _, o', e', hc, _⟩ := (show ObjOk X.prog X.w H s.heap a (.frz o (.tup xs)) from I.hok a _ h)
    rw [e] at e'; cases e'
    exact ⟨⟨o, e, hc⟩, o, e, hd⟩
  · exact ⟨⟨o, I.kIn _ _ h1, hc⟩, o, I.kIn _ _ h1, hd⟩
theorem pe_tm {o e : Expr} {es : List Expr} {to : TE} {t : TA} {name : Str} {id : String} {r : V → List V → Hp → VK → Prop} (slot : Slot "tuple" name id) (hty : typeOf (.builtin id) = pure (.type "method_descriptor")) (hm : MtR X id r) (ho : PE X o to) (ha : PA X (e :: es) t)
    (hbase : attributeBase o name X.env (eval o X.env) = eval o X.env := by rfl)
    (hfew : ((backTo cpos (starEach (e :: es) X.env)).all (fun x => !x.1) && (backToKw cpos (keywordEach [] X.env)).all (fun x => x.1.isSome)
      && decide ((e :: es).length + ([] : List Keyword).length + (if ([] : List Keyword).isEmpty then 0 else 1) < 30)) = true := by rfl)
    (hline : (apos.endLine == cpos.line) = true := by rfl) (hs : starEach (e :: es) X.env = (false, eval e X.env) :: starEach es X.env := by rfl) (hplain : (backTo cpos (starEach es X.env)).any (·.1) = false := by rfl) :
    PE X (.Call (.Attribute o name apos) (e :: es) [] cpos) (tTM X.K r to t) := by
  refine ⟨fun pins s σ H Q I h => ?_⟩
  refine wpAny_Call_method_late hbase hfew hline rfl (thn (ho.run pins s σ H _ I h) fun v s1 ⟨x, H1, I1, r1, ty, q1⟩ => ?_)
  obtain ⟨a, xs, rfl, hq⟩ := ty
  obtain ⟨h1, ob, h2, h3⟩ := sqP_obj I1 hq
  have r1' := r1
  cases (show v = Value.ref a from r1')
  refine ⟨"tuple", id, PySem.F.plainAttrs_tuple, slot, hty, h1, fun a' e => by cases e; exact ⟨ob, h2, h3⟩, ?_⟩
  have hA := ha.run cpos pins s1 σ H1 _ I1 q1
  rw [hs] at hA ⊢
  refine Calls.callWith_builtin (by show (false || (backTo cpos (starEach es X.env)).any (·.1)) = false; rw [hplain] <;> rfl) (Calls.evalArgs_plain ?_)
  exact thn hA fun us s2 ⟨vs, H2, I2, r2, q2⟩ => hm pins s2 σ H2 (.ref a) vs (.ref a) us Q I2 r1 r2 q2
def dTM (f : List D → List D → Option D) (o : DOn) (a : DAn) : DEn := fun ρ => (o ρ).bind fun p => match argB p.1 p.2 with
  | some (.val (.tup ds)) => (a p.1).bind fun q => (match (resAll q.1 q.2).bind (f ds) with
    | some d => .ok (q.1, d)
    | none => .bad)
  | _ => .bad
/-- a method's rule does what f tells -/
def SndM (K : PySem.W.Frag) (T : Tab) (r : V → List V → Hp → VK → Prop) (f : List D → List D → Option D) : Prop :=
  ∀ (a : Addr) (xs : List V) (ds : List D) (vs : List V) (es : List D) (d : D) (G H : Hp) (Q : VK), Same G H → SqP K G a xs → RzL K T G xs ds → RbL K T G H vs es → f ds es = some d → (∀ v G' H', New G H G' H' → Rz K T G' v d → Q v H') → r (.ref a) vs H Q
theorem de_tm {o e : Expr} {es : List Expr} {oo : DOn} {da : DAn} {name : Str} {id : String} {r : V → List V → Hp → VK → Prop} {f : List D → List D → Option D} (hf : SndM X.K T r f) (slot : Slot "tuple" name id) (hty : typeOf (.builtin id) = pure (.type "method_descriptor")) (hm : MtR X id r) (ho : DO X T W o oo) (ha : DA X T W (e :: es) da)
    (hbase : attributeBase o name X.env (eval o X.env) = eval o X.env := by rfl)
    (hfew : ((backTo cpos (starEach (e :: es) X.env)).all (fun x => !x.1) && (backToKw cpos (keywordEach [] X.env)).all (fun x => x.1.isSome)
      && decide ((e :: es).length + ([] : List Keyword).length + (if ([] : List Keyword).isEmpty then 0 else 1) < 30)) = true := by rfl)
    (hline : (apos.endLine == cpos.line) = true := by rfl) (hs : starEach (e :: es) X.env = (false, eval e X.env) :: starEach es X.env := by rfl) (hplain : (backTo cpos (starEach es X.env)).any (·.1) = false := by rfl) :
    DE X T W (.Call (.Attribute o name apos) (e :: es) [] cpos) (dTM f oo da) := by
  refine PE.imp (pe_tm slot hty hm ho ha hbase hfew hline hs hplain) fun σ H Q q => ?_
  obtain ⟨τ, ρ, G, k, q⟩ := q
  refine ⟨τ, ρ, G, k, (Out.bind q).imp fun ρ1 op G1 H1 k1 fr1 q1 v rv fv => ?_⟩
  dsimp only at q1
  split at q1
  · rename_i ds h1
    have rz := argB_val k1 h1 rv
    rw [Rz] at rz
    obtain ⟨a, xs, rfl, e1, e2⟩ := rz
    refine ⟨⟨a, xs, rfl, Same.tupP k1.sub e1⟩, τ, ρ1, G1, k1, (Out.bind q1).imp fun ρ2 ops G2 H2 k2 fr2 q2 vs rvs fvs => ?_⟩
    dsimp only at q2
    split at q2
    · rename_i d h2
      obtain ⟨es', h3, h4⟩ := two_some h2
      exact hf a xs ds vs es' d G2 H2 Q k2.sub (Same.tupP fr2.gro e1) (e2.mono fr2.gro) (k2.resolveAll rvs h3) h4 fun z G3 H3 n rz => q2 G3 H3 (k2.new n) n.fr z rz
    · exact q2.elim
  · exact q1.elim
/-- t.index(i), a tuple of ints -/
def rTIx (K : PySem.W.Frag) : V → List V → Hp → VK → Prop := fun x xs H Q => ∃ p, ∃ ys : List Int, ∃ z j, x = .ref p ∧ xs = [.int z] ∧ SqT K H p (ys.map V.int) ∧ ys[j]? = some z ∧ (∀ m, m < j → ys[m]? ≠ some z) ∧ Q (.int (j : Nat)) H
theorem flat_ints (ys : List Int) : (ys.map V.int).all flatV = true := by
  rw [List.all_map]
  exact List.all_eq_true.mpr fun _ _ => rfl
theorem mt_tup_indexI : MtR X "tuple.index" (rTIx X.K) := by
  intro pins s σ H x xs v us Q I rx rs h
  obtain ⟨p, ys, z, j, rfl, rfl, hq, hy, hno, q⟩ := h
  cases rx
  obtain ⟨u, rfl, t, rfl⟩ := vals1 rs
  obtain ⟨its, r, pl, hz⟩ := I.tuple hq
  obtain ⟨⟨cls, dd, dt, sl⟩, ho, hc, n, hd⟩ := pl
  simp only at hc hd
  subst hc
  subst hd
  have hl : its.toArray.size = ys.length := by rw [List.size_toArray, ← r.length, List.length_map]
  have hj : j < its.toArray.size := by rw [hl]; exact (List.getElem?_eq_some_iff.mp hy).1
  have at' : ∀ (m : Nat) (hm : m < its.toArray.size), ∃ y t', ys[m]? = some y ∧ its.toArray[m] = Value.int y t' := fun m hm => by
    have hm' : m < ys.length := by rw [← hl]; exact hm
    obtain ⟨w, hw, t', hw'⟩ := r.get (i := m) (x := .int ys[m]) (by simp [hm'])
    refine ⟨ys[m], t', List.getElem?_eq_getElem hm', ?_⟩
    have e := (List.getElem?_eq_some_iff.mp hw).2
    rw [← hw', ← e]
    simp
  refine call_meets PySem.F.slot_tuple_index ⟨_, ho, rfl⟩ PySem.F.entry_tuple_index (PySem.F.args_tuple_index_2 _ _) (TI.tuple_indexAt p its.toArray n dd sl (.int z t) (eqU (.int z)) j hj ?_ ?_)
    ⟨ho, fun w hw => mem_eqAt (x := .int z) ⟨t, rfl⟩ rfl r (flat_ints ys) w (by simpa using hw), ⟨.int (j : Nat), H, I.tok _, ⟨_, rfl⟩, q⟩⟩
  · obtain ⟨y, t', h1, h2⟩ := at' j hj
    rw [hy] at h1
    cases h1
    rw [h2]
    show (z == z) = true
    exact beq_self_eq_true z
  · intro m hm hmj
    obtain ⟨y, t', h1, h2⟩ := at' m hm
    rw [h2]
    show (y == z) = false
    exact beq_eq_false_iff_ne.mpr fun e => hno m hmj (e ▸ h1)
def ixI (z : Int) : List Int → Option Nat
  | [] => none
  | y :: ys => if y = z then some 0 else (ixI z ys).map (· + 1)
theorem ixI_of {z : Int} : ∀ {ys : List Int} {j : Nat}, ixI z ys = some j → ys[j]? = some z ∧ ∀ m, m < j → ys[m]? ≠ some z
  | [], j, h => by cases h
  | y :: ys, j, h => by
    unfold ixI at h
    by_cases e : y = z
    · rw [if_pos e] at h; cases h
      exact ⟨by rw [e]; rfl, fun m hm => absurd hm (Nat.not_lt_zero _)⟩
    · rw [if_neg e] at h
      obtain ⟨k, h1, rfl⟩ := map_some' h
      obtain ⟨h2, h3⟩ := ixI_of h1
      refine ⟨by simpa using h2, fun m hm => ?_⟩
      cases m with
      | zero => simp; exact e
      | succ m => simpa using h3 m (by omega)
def indexD : List D → List D → Option D
  | ds, [.int z] => ((intsD ds).bind (ixI z)).map fun j => .int (j : Nat)
  | _, _ => none
theorem snd_index {K : PySem.W.Frag} : SndM K T (rTIx K) indexD := fun a xs ds vs es d G H Q s hq r rb e q => by
  unfold indexD at e
  split at e
  · obtain ⟨v, rfl, r1⟩ := rb.one
    obtain ⟨j, h1, rfl⟩ := map_some' e
    obtain ⟨ys, h2, h3⟩ := two_some h1
    have := ints_rz r h2
    subst this
    obtain ⟨h4, h5⟩ := ixI_of h3
    exact ⟨a, ys, _, j, rfl, by rw [r1.int], Same.tup s hq.t, h4, h5, q _ G H (New.refl s) Rz.int_⟩
  · cases e
/-! ### min, max of three -/
def max3D : List D → Option D
  | [.int i, .int j, .int k] => some (.int (let m := if i < j then j else i; if m < k then k else m))
  | _ => none
def min3D : List D → Option D
  | [.int i, .int j, .int k] => some (.int (let m := if j < i then j else i; if k < m then k else m))
  | _ => none
theorem snd_max3 {K : PySem.W.Frag} : SndL K T (rNuC3 nuMax3) max3D := fun vs ds d G H Q s rb e q => by
  unfold max3D at e
  split at e
  · rename_i i j k
    obtain ⟨v, w, u, rfl, r, r2, r3⟩ := rb.three
    cases e
    refine ⟨v, w, u, .int (let m := if i < j then j else i; if m < k then k else m), rfl, ?_, q _ G H (New.refl s) Rz.int_⟩
    rw [r.int, r2.int, r3.int]
    unfold nuMax3 nuMax2 nuLt nuCB
    by_cases h : i < j
    · simp [h]
      by_cases h2 : j < k <;> simp [h2]
    · simp [h]
      by_cases h2 : i < k <;> simp [h2]
  · cases e
theorem snd_min3 {K : PySem.W.Frag} : SndL K T (rNuC3 nuMin3) min3D := fun vs ds d G H Q s rb e q => by
  unfold min3D at e
  split at e
  · rename_i i j k
    obtain ⟨v, w, u, rfl, r, r2, r3⟩ := rb.three
    cases e
    refine ⟨v, w, u, .int (let m := if j < i then j else i; if k < m then k else m), rfl, ?_, q _ G H (New.refl s) Rz.int_⟩
    rw [r.int, r2.int, r3.int]
    unfold nuMin3 nuMin2 nuLt nuCB
    by_cases h : j < i
    · simp [h]
      by_cases h2 : k < j <;> simp [h2]
    · simp [h]
      by_cases h2 : k < i <;> simp [h2]
  · cases e
end
end Zd
end
section
/-! Zd 16: tuple * int; sorted(set(..)). -/
namespace Zd
open PySem PySem.Spec PyProof.Rows L2
set_option autoImplicit false
theorem tuple_mul1 (l : Addr) (items : Array Value) (n : Nat) (dd : Option Addr) (sl : Array (Option Value)) (u : Tok) :
    Meets (Builtin.«tuple.__mul__» ⟨[.ref l, .int 1 u], []⟩) (fun _ R s => s.heap.get? l = some { cls := .type "tuple", dict := dd, data := .seq items n, slots := sl } ∧
      R (.ok (.ret (Value.ref l))) s) :=
  .of_wp fun prog w A R s h => by
    obtain ⟨hp, g, d, tk, os⟩ := s
    obtain ⟨hl, h⟩ := h
    have f1 := AutoSeq1.idx_int
    have c1 : (items.isEmpty || ((1 : Int) == 1)) = true := by simp
    wp_walk using wpAny_loadPart' hl
    exact ⟨_, rfl, h⟩
section
variable {X : Cx} {T : Tab} {W : WX} {pos apos cpos : Pos}
def rRepP (K : PySem.W.Frag) : R2 := fun x y H Q => ∃ l k xs, x = .ref l ∧ y = .int k ∧ SqT K H l xs ∧ xs ≠ [] ∧ 1 ≤ k ∧ k ≤ 1000 ∧ xs.length ≤ 1000 ∧ (k = 1 → Q (.ref l) H) ∧ (k ≠ 1 → ∀ p (o : Obj), H p = none → o.dict = none → Q (.ref p) (upd H p (.frz o (.tup (List.replicate k.toNat xs).flatten))))
theorem op_repP : OpR X (binaryOp .Mult) (rRepP X.K) := by
  intro pins s σ H x y v u Q I rx ry h
  obtain ⟨l, k, xs, rfl, rfl, hT, hne, h1, h2, hz, q1, q⟩ := h
  cases rx
  obtain ⟨t, rfl⟩ := ry
  obtain ⟨its, r, ⟨⟨cls, dd, data, sl⟩, ho, hc, n, hd⟩, hs⟩ := I.tuple hT
  simp only at hc hd
  subst hc hd
  have hle : its.length = xs.length := r.length.symm
  have hn : its ≠ [] := fun e => hne (by
    rw [e] at hle
    exact List.eq_nil_of_length_eq_zero hle.symm)
  have hi : its.toArray.isEmpty = false := by
    cases its with
    | nil => exact absurd rfl hn
    | cons a b => rfl
  have hsz0 : its.toArray.size = xs.length := by rw [List.size_toArray, hle]
  have hm : ((its.toArray.size : Nat) : Int) * k ≤ 1000000 := by
    rw [hsz0]
    have a1 : ((xs.length : Nat) : Int) * k ≤ 1000 * k := Int.mul_le_mul_of_nonneg_right (by omega) (by omega)
    omega
  have flen : (List.replicate k.toNat its).flatten.length ≤ sizeLine := by
    rw [PyProof.Rows.lm_len_rep_flat, hle, sizeLine_eq]
    have a1 : k.toNat * xs.length ≤ 1000 * 1000 := Nat.mul_le_mul (by omega) hz
    omega
  by_cases hk1 : k = 1
  · subst hk1
    exact wpAny_binaryOp_repeat_ref (T := "tuple") (U := "int") (by decide) ⟨_, ho, rfl⟩ (fun s' => typeIs_int s' 1 t) noFill_tuple_mul PySem.F.fills_int_mul PySem.F.slot_int_rmul repeat_tuple PySem.F.slot_int_index.lookup
      (call_meets PySem.F.slot_int_rmul (typeIs_int s 1 t) PySem.F.entry_int_rmul (PySem.F.args_int_rmul_2 _ _) (int_rmul_tuple 1 t l its.toArray n dd sl)
        ⟨ho, rfl, ⟨_, ho, rfl⟩, call_meets PySem.F.slot_tuple_mul ⟨_, ho, rfl⟩ PySem.F.entry_tuple_mul (PySem.F.args_tuple_mul_2 _ _) (tuple_mul1 l its.toArray n dd sl t) ⟨ho, ⟨.ref l, H, I, rfl, q1 rfl⟩⟩⟩)
  have c0 : (decide (k < -(2 ^ 63)) || decide (k ≥ 2 ^ 63)) = false := by
    rw [decide_eq_false (by omega), decide_eq_false (by omega)] <;> rfl
  have c1 : (its.toArray.isEmpty || k == 1) = false := by
    rw [hi, Bool.false_or]
    exact beq_eq_false_iff_ne.mpr (by omega)
  have c2 : (decide (k ≤ 0) || its.toArray.isEmpty) = false := by
    rw [hi, Bool.or_false]
    exact decide_eq_false (by omega)
  have c4 : Builtin.Tuple.tupleTooMany (((its.toArray.size : Nat) : Int) * k) = false := by
    unfold Builtin.Tuple.tupleTooMany
    rw [sizeLine_eq]
    exact decide_eq_false (by omega)
  refine wpAny_binaryOp_repeat_ref (T := "tuple") (U := "int") (by decide) ⟨_, ho, rfl⟩ (fun s' => typeIs_int s' k t) noFill_tuple_mul PySem.F.fills_int_mul PySem.F.slot_int_rmul repeat_tuple PySem.F.slot_int_index.lookup
    (call_meets PySem.F.slot_int_rmul (typeIs_int s k t) PySem.F.entry_int_rmul (PySem.F.args_int_rmul_2 _ _) (int_rmul_tuple k t l its.toArray n dd sl)
      ⟨ho, rfl, ⟨_, ho, rfl⟩, call_meets PySem.F.slot_tuple_mul ⟨_, ho, rfl⟩ PySem.F.entry_tuple_mul (PySem.F.args_tuple_mul_2 _ _) (tuple_mulW l its.toArray n dd sl k t c0 c1 c2 (by omega) c4 (by rw [size_rep, List.size_toArray]; exact flen)) ⟨ho, ?_⟩⟩)
  rw [size_rep]
  exact ep_tup I (r.rep k.toNat) (by rw [PyProof.Rows.lm_len_rep_flat, sizeLine_eq]; have a1 : k.toNat * xs.length ≤ 1000 * 1000 := Nat.mul_le_mul (by omega) hz; omega) (q hk1)
theorem RzL.rep {K : PySem.W.Frag} {G : Hp} {vs : List V} {ds : List D} (r : RzL K T G vs ds) : ∀ n : Nat, RzL K T G (List.replicate n vs).flatten (List.replicate n ds).flatten
  | 0 => by simpa using RzL.nil
  | n + 1 => by
    rw [List.replicate_succ, List.replicate_succ, List.flatten_cons, List.flatten_cons]
    exact r.append (RzL.rep r n)
def mulA : D → D → Option D
  | .int i, .int j => mulI (.int i) (.int j)
  | .tup ds, .int k => if ds.isEmpty = false ∧ 1 ≤ k ∧ k ≤ 1000 ∧ ds.length ≤ 1000 then some (.tup (List.replicate k.toNat ds).flatten) else none
  | _, _ => none
def rMulA (K : PySem.W.Frag) : R2 := fun x y H Q => rI CMul (fun i j => .int (i * j)) x y H Q ∨ rRepP K x y H Q
theorem op_mulA : OpR X (binaryOp .Mult) (rMulA X.K) := op_mul.or op_repP
theorem snd_mulA {K : PySem.W.Frag} : Snd2 K T (rMulA K) mulA := by
  intro x y a b d G H Q s ra rb e q
  unfold mulA at e
  split at e
  · exact .inl (snd_mulI x y _ _ d G H Q s ra rb e q)
  · rename_i ds k
    by_cases hc : ds.isEmpty = false ∧ 1 ≤ k ∧ k ≤ 1000 ∧ ds.length ≤ 1000
    · rw [if_pos hc] at e; cases e
      obtain ⟨h0, h1, h2, h3⟩ := hc
      obtain ⟨p, xs, rfl, e2, e3⟩ := Rb.tup s ra
      refine .inr ⟨p, k, xs, rfl, rb.int, Same.tup s e2.t, fun z => ?_, h1, h2, by rw [e3.len]; exact h3, fun hk => ?_, fun hk p' o hp ho => ?_⟩
      · subst z
        have : ds = [] := by have := e3.len; simpa using this.symm
        subst this; cases h0
      · subst hk
        have e1 : (List.replicate (1 : Int).toNat ds).flatten = ds := by show (List.replicate 1 ds).flatten = ds; simp
        rw [e1] at q
        exact q _ G H (New.refl s) (Rz.tup_ e2 e3)
      · have n := New.one (o := .frz o (.tup (List.replicate k.toNat xs).flatten)) s hp
        exact q _ _ _ n (Rz.tup_ (.inl ⟨o, upd_same, ho⟩) ((RzL.rep e3 k.toNat).mono n.gro))
    · rw [if_neg hc] at e; cases e
  · cases e
theorem de_mul {a b : Expr} {oa ob : DOn} (ha : DO X T W a oa) (hb : DO X T W b ob) : DE X T W (.BinOp a .Mult b pos) (d2 mulA oa ob) := de_op snd_mulA op_mulA ha hb
/-! ### sorted(set(t)), t a tuple of ints -/
def rSetTI (K : PySem.W.Frag) (w : World) : List V → Hp → VK → Prop := fun vs H Q => ∃ (p : Addr) (ns : List Int), vs = [.ref p] ∧ SqT K H p (ns.map V.int) ∧ ns.length ≤ 1000 ∧ ∀ a c, H a = none → c ≤ ns.length → Q (.ref a) (upd H a (SetO w a (fun j => decide (j ∈ ns)) c))
theorem call_setTI (hc : X.calm = true) : CallR X (.type "set") (rSetTI X.K X.w) := by
  intro pins s σ H vs us Q I r h
  obtain ⟨p, ns, rfl, hq, hl, q⟩ := h
  obtain ⟨its, rv, pt, hz⟩ := I.tuple hq
  rw [Vals.ref1 r]
  have hi : IntsAre its.toArray.toList ns := ints_of_vals rv
  refine call_set_tupI ns (I.ok.hd hc) (show s.heap.IsTuple p its.toArray from pt) hi (by unfold scanBound; omega) fun h' tk c R1 hcn k => ?_
  exact ⟨.ref s.heap.objs.size, upd H s.heap.objs.size (SetO X.w s.heap.objs.size (fun j => decide (j ∈ ns)) c), I.laid (t' := tk) k (Nat.le_refl _) (setO_new R1), rfl, q _ _ (I.hok.fresh (Nat.le_refl _)) hcn⟩
/-- put into a rising list, once -/
def insU (z : Int) : List Int → List Int
  | [] => [z]
  | y :: ys => if z < y then z :: y :: ys else if z = y then y :: ys else y :: insU z ys
def sortU : List Int → List Int
  | [] => []
  | y :: ys => insU y (sortU ys)
theorem mem_insU {z k : Int} : ∀ {l : List Int}, k ∈ insU z l ↔ k = z ∨ k ∈ l
  | [] => by simp [insU]
  | y :: ys => by
    unfold insU
    by_cases h : z < y
    · rw [if_pos h]; simp
    · rw [if_neg h]
      by_cases h2 : z = y
      · rw [if_pos h2]; subst h2; simp
      · rw [if_neg h2, List.mem_cons, mem_insU, List.mem_cons]
        constructor
        · rintro (h | h | h)
          · exact .inr (.inl h)
          · exact .inl h
          · exact .inr (.inr h)
        · rintro (h | h | h)
          · exact .inr (.inl h)
          · exact .inl h
          · exact .inr (.inr h)
theorem insU_sorted {z : Int} : ∀ {l : List Int}, l.Pairwise (· < ·) → (insU z l).Pairwise (· < ·)
  | [], _ => by simp [insU]
  | y :: ys, h => by
    unfold insU
    obtain ⟨h1, h2⟩ := List.pairwise_cons.mp h
    by_cases hz : z < y
    · rw [if_pos hz]
      refine List.pairwise_cons.mpr ⟨fun k hk => ?_, h⟩
      rcases List.mem_cons.mp hk with rfl | hk
      · exact hz
      · have := h1 k hk; omega
    · rw [if_neg hz]
      by_cases h3 : z = y
      · rw [if_pos h3]; exact h
      · rw [if_neg h3]
        refine List.pairwise_cons.mpr ⟨fun k hk => ?_, insU_sorted h2⟩
        rcases mem_insU.mp hk with rfl | hk
        · omega
        · exact h1 k hk
theorem mem_sortU {k : Int} : ∀ {l : List Int}, k ∈ sortU l ↔ k ∈ l
  | [] => Iff.rfl
  | y :: ys => by unfold sortU; rw [mem_insU, mem_sortU, List.mem_cons]
theorem sortU_sorted : ∀ (l : List Int), (sortU l).Pairwise (· < ·)
  | [] => List.Pairwise.nil
  | y :: ys => insU_sorted (sortU_sorted ys)
theorem rise_inj : ∀ {l m : List Int}, l.Pairwise (· < ·) → m.Pairwise (· < ·) → (∀ k, k ∈ l ↔ k ∈ m) → l = m
  | [], [], _, _, _ => rfl
  | [], y :: m, _, _, h => by have := (h y).mpr List.mem_cons_self; cases this
  | y :: l, [], _, _, h => by have := (h y).mp List.mem_cons_self; cases this
  | y :: l, z :: m, h1, h2, h => by
    obtain ⟨a1, a2⟩ := List.pairwise_cons.mp h1
    obtain ⟨b1, b2⟩ := List.pairwise_cons.mp h2
    have e : y = z := by
      have hy := (h y).mp List.mem_cons_self
      have hz := (h z).mpr List.mem_cons_self
      rcases List.mem_cons.mp hy with hy | hy
      · exact hy
      · rcases List.mem_cons.mp hz with hz | hz
        · exact hz.symm
        · have := b1 y hy; have := a1 z hz; omega
    subst e
    rw [rise_inj a2 b2 fun k => ?_]
    have hk := h k
    rw [List.mem_cons, List.mem_cons] at hk
    constructor
    · intro hm
      rcases hk.mp (.inr hm) with e | e
      · subst e; have := a1 k hm; omega
      · exact e
    · intro hm
      rcases hk.mpr (.inr hm) with e | e
      · subst e; have := b1 k hm; omega
      · exact e
def sosD : D → Option D
  | .tup ds => (intsD ds).bind fun ns => if ns.length < 64 then some (.lst ((sortU ns).map .int)) else none
  | _ => none
def dSos (d : DEn) : DEn := fun ρ => (d ρ).bind fun p => match sosD p.2 with
  | some e => .ok (p.1, e)
  | none => .bad
theorem de_sos {e : Expr} {d : DEn} {p p2 pos2 : Pos} (hc : X.calm = true) (h : DE X T W e d) (hm : X.mg "sorted" = none) (hm2 : X.mg "set" = none) (hg : Gl X "sorted" := by rfl) (hg2 : Gl X "set" := by rfl)
    (he : starEach [e] X.env = (false, eval e X.env) :: starEach [] X.env := by rfl)
    (he2 : starEach [.Call (.Name "set" p2) [e] [] pos2] X.env = (false, eval (.Call (.Name "set" p2) [e] [] pos2) X.env) :: starEach [] X.env := by rfl)
    (hpl : (backTo pos2 (starEach [] X.env)).any (·.1) = false := by rfl) (hpl2 : (backTo pos (starEach [] X.env)).any (·.1) = false := by rfl) :
    DE X T W (.Call (.Name "sorted" p) [.Call (.Name "set" p2) [e] [] pos2] [] pos) (dSos d) := by
  refine PE.imp (pe_callB (cr_sortedSet hc) hg hm PyProof.Rows.boot_sorted (pa_cons (pe_callTy (call_setTI hc) hg2 hm2 PyProof.Rows.boot_set (pa_cons h pa_nil he) (by decide) (by decide) he hpl) pa_nil he2) (by decide) (by decide) he2 hpl2) fun σ H Q q => ?_
  obtain ⟨τ, ρ, G, k, q⟩ := q
  refine ⟨τ, ρ, G, k, (Out.bind q).imp fun ρ1 r G1 H1 k1 fr1 q1 v rv => ?_⟩
  dsimp only at q1
  cases e1 : sosD r with
  | none => rw [e1] at q1; exact q1.elim
  | some d' =>
    rw [e1] at q1
    cases r with
    | tup ds =>
      obtain ⟨ns, h1, h2⟩ := two_some (show (intsD ds).bind _ = some d' from e1)
      by_cases hl : ns.length < 64
      · rw [if_pos hl] at h2; cases h2
        rw [Rz] at rv
        obtain ⟨a, xs, rfl, h3, h4⟩ := rv
        have := ints_rz h4 h1
        subst this
        refine ⟨a, ns, rfl, Same.tup k1.sub h3.t, by omega, fun b c hb hcn => ?_⟩
        refine ⟨b, (fun j => decide (j ∈ ns)), c, rfl, upd_same, by omega, fun out l ho1 ho2 ho3 hl2 => ?_⟩
        have e2 : out = sortU ns := rise_inj ho1 (sortU_sorted ns) fun z => by rw [ho2, mem_sortU, decide_eq_true_iff]
        subst e2
        have n1 := New.loose (o := SetO X.w b (fun j => decide (j ∈ ns)) c) k1.sub hb
        have n2 := New.one (o := HO.lst ((sortU ns).map V.int)) n1.sub hl2
        have n := n1.trans n2
        exact q1 _ _ (k1.new n) n.fr _ (Rz.lst_ upd_same (rz_ints _))
      · rw [if_neg hl] at h2; cases h2
    | _ => cases e1
end
end Zd
end
section
/-! Zd 17: isinstance. -/
namespace Zd
open PySem PySem.Spec PyProof.Rows L2
set_option autoImplicit false
def tyN : D → Option String
  | .non => some "NoneType"
  | .bl _ => some "bool"
  | .int _ => some "int"
  | .str _ => some "str"
  | .tup _ => some "tuple"
  | .lst _ => some "list"
  | .frz _ => some "list"
  | .ins _ _ => none
def isN (t n : String) : Bool := t == n || (t == "bool" && n == "int")
def KitN (n : String) : Prop := ∀ (K : PySem.W.Frag) (t : String), t ∈ ["NoneType", "bool", "int", "str", "tuple", "list"] → PySem.W.kitOne K (.type t) (.type n) = some (isN t n)
theorem kit_int : KitN "int" := fun K t h => by
  simp only [List.mem_cons, List.mem_nil_iff, or_false] at h
  rcases h with rfl | rfl | rfl | rfl | rfl | rfl
  all_goals kernel_rfl
theorem kit_bool : KitN "bool" := fun K t h => by
  simp only [List.mem_cons, List.mem_nil_iff, or_false] at h
  rcases h with rfl | rfl | rfl | rfl | rfl | rfl
  all_goals kernel_rfl
theorem kit_str : KitN "str" := fun K t h => by
  simp only [List.mem_cons, List.mem_nil_iff, or_false] at h
  rcases h with rfl | rfl | rfl | rfl | rfl | rfl
  all_goals kernel_rfl
theorem kit_tuple : KitN "tuple" := fun K t h => by
  simp only [List.mem_cons, List.mem_nil_iff, or_false] at h
  rcases h with rfl | rfl | rfl | rfl | rfl | rfl
  all_goals kernel_rfl
theorem kit_list : KitN "list" := fun K t h => by
  simp only [List.mem_cons, List.mem_nil_iff, or_false] at h
  rcases h with rfl | rfl | rfl | rfl | rfl | rfl
  all_goals kernel_rfl
theorem tyN_mem {d : D} {t : String} (h : tyN d = some t) : t ∈ ["NoneType", "bool", "int", "str", "tuple", "list"] := by
  cases d <;> first | (cases h; simp) | cases h
section
variable {X : Cx} {T : Tab} {W : WX} {pos : Pos}
theorem tyX_of {K : PySem.W.Frag} {G H : Hp} {v : V} {d : D} {t : String} (s : Same G H) (r : Rb K T G H v d) (e : tyN d = some t) : TyX K H v (.type t) := by
  cases d with
  | non => cases e; rw [r.non]; exact .base .non
  | bl b => cases e; rw [r.bl]; exact .base (.bl b)
  | int i => cases e; rw [r.int]; exact .base (.int i)
  | str z => cases e; rw [r.str]; exact .base (.str z)
  | tup ds =>
    cases e
    obtain ⟨a, xs, rfl, h1, h2⟩ := Rb.tup s r
    rcases Same.tupP s h1 with ⟨o, h, _⟩ | ⟨o, its, n, h, _, hc, _⟩
    · exact .fTuple h
    · exact .kTuple h hc
  | lst ds =>
    cases e
    obtain ⟨a, xs, rfl, h1, h2⟩ := Rb.lst s r
    exact .base (.lst h1)
  | frz ds =>
    cases e
    obtain ⟨a, xs, rfl, h1, h2⟩ := Rb.frz s r
    rcases h1 with (h | ⟨o, h⟩) | ⟨o, its, n, h, hc, _⟩
    · exact .base (.lst h)
    · exact .base (.frz h)
    · exact .kList h hc
  | ins c ds => cases e
/-- isinstance(e, n), n a built-in type -/
def dIsi (n : String) (o : DOn) : DEn := fun ρ => (o ρ).bind fun p => match (res p.1 p.2).bind tyN with
  | some t => .ok (p.1, .bl (isN t n))
  | none => .bad
theorem de_isi {x : Str} {n : String} {e : Expr} {oo : DOn} {p p2 : Pos} (hk : KitN n) (h : DO X T W e oo) (hm : X.mg "isinstance" = none) (hm2 : X.mg x = none) (hv : bootBuiltins x = some (.type n)) (hg : Gl X "isinstance" := by rfl) (hg2 : Gl X x := by rfl)
    (hn : x ≠ "__name__" := by decide) (hdb : (x == ("__debug__" : Str)) = false := by decide)
    (he : starEach [e, .Name x p2] X.env = (false, eval e X.env) :: starEach [.Name x p2] X.env := by rfl) (he2 : starEach [.Name x p2] X.env = (false, eval (.Name x p2) X.env) :: starEach [] X.env := by rfl)
    (hpl : (backTo pos (starEach [.Name x p2] X.env)).any (·.1) = false := by rfl) : DE X T W (.Call (.Name "isinstance" p) [e, .Name x p2] [] pos) (dIsi n oo) := by
  refine PE.imp (pe_callB call_isi hg hm PyProof.Rows.boot_isinstance (pa_cons h (pa_cons (pe_bltn (v := V.ty n) hg2 hm2 hv rfl hn hdb) pa_nil he2) he) (by decide) (by decide) he hpl) fun σ H Q q => ?_
  obtain ⟨τ, ρ, G, k, q⟩ := q
  refine ⟨τ, ρ, G, k, (Out.bind q).imp fun ρ1 op G1 H1 k1 fr1 q1 v rv fv => ?_⟩
  dsimp only at q1
  cases e1 : (res ρ1 op).bind tyN with
  | none => rw [e1] at q1; exact q1.elim
  | some t =>
    rw [e1] at q1
    obtain ⟨d, h1, h2⟩ := two_some e1
    exact ⟨v, .ty n, .type t, .type n, isN t n, rfl, .ty n, tyX_of k1.sub (k1.resolve rv h1) h2, hk X.K t (tyN_mem h2), q1 G1 H1 k1 Fr.refl _ Rz.bl_⟩
/-- isinstance(e, (n, m)) -/
def dIsi2 (n m : String) (o : DOn) : DEn := fun ρ => (o ρ).bind fun p => match (res p.1 p.2).bind tyN with
  | some t => .ok (p.1, .bl (isN t n || isN t m))
  | none => .bad
theorem kitAny2 {n m t : String} {K : PySem.W.Frag} (hk : KitN n) (hk2 : KitN m) (h : t ∈ ["NoneType", "bool", "int", "str", "tuple", "list"]) : PySem.W.kitAny K (.type t) [.type n, .type m] = some (isN t n || isN t m) := by
  unfold PySem.W.kitAny PySem.W.kitAny PySem.W.kitAny
  rw [hk K t h, hk2 K t h]
  cases isN t n <;> cases isN t m <;> rfl
theorem de_isi2 {x y : Str} {n m : String} {e : Expr} {oo : DOn} {p p2 p3 pt : Pos} {kt : Nat} (hk : KitN n) (hk2 : KitN m) (h : DO X T W e oo) (hm : X.mg "isinstance" = none) (hm2 : X.mg x = none) (hv : bootBuiltins x = some (.type n)) (hm3 : X.mg y = none) (hv3 : bootBuiltins y = some (.type m)) (hg : Gl X "isinstance" := by rfl) (hg2 : Gl X x := by rfl) (hg3 : Gl X y := by rfl)
    (hn : x ≠ "__name__" := by decide) (hdb : (x == ("__debug__" : Str)) = false := by decide) (hn3 : y ≠ "__name__" := by decide) (hdb3 : (y == ("__debug__" : Str)) = false := by decide)
    (he : starEach [e, .Tuple [.Name x p2, .Name y p3] kt pt] X.env = (false, eval e X.env) :: starEach [.Tuple [.Name x p2, .Name y p3] kt pt] X.env := by rfl) (he2 : starEach [.Tuple [.Name x p2, .Name y p3] kt pt] X.env = (false, eval (.Tuple [.Name x p2, .Name y p3] kt pt) X.env) :: starEach [] X.env := by rfl)
    (he3 : starEach [.Name x p2, .Name y p3] X.env = (false, eval (.Name x p2) X.env) :: starEach [.Name y p3] X.env := by rfl) (he4 : starEach [.Name y p3] X.env = (false, eval (.Name y p3) X.env) :: starEach [] X.env := by rfl)
    (hpl : (backTo pos (starEach [.Tuple [.Name x p2, .Name y p3] kt pt] X.env)).any (·.1) = false := by rfl) : DE X T W (.Call (.Name "isinstance" p) [e, .Tuple [.Name x p2, .Name y p3] kt pt] [] pos) (dIsi2 n m oo) := by
  refine PE.imp (pe_callB call_isiT hg hm PyProof.Rows.boot_isinstance (pa_cons h (pa_cons (pe_tup (pa_cons (pe_bltn (v := V.ty n) hg2 hm2 hv rfl hn hdb) (pa_cons (pe_bltn (v := V.ty m) hg3 hm3 hv3 rfl hn3 hdb3) pa_nil he4) he3)) pa_nil he2) he) (by decide) (by decide) he hpl) fun σ H Q q => ?_
  obtain ⟨τ, ρ, G, k, q⟩ := q
  refine ⟨τ, ρ, G, k, (Out.bind q).imp fun ρ1 op G1 H1 k1 fr1 q1 v rv fv => ?_⟩
  dsimp only at q1
  cases e1 : (res ρ1 op).bind tyN with
  | none => rw [e1] at q1; exact q1.elim
  | some t =>
    rw [e1] at q1
    obtain ⟨d, h1, h2⟩ := two_some e1
    refine ⟨by show 2 ≤ sizeLine; rw [sizeLine_eq]; omega, fun tp htp => ?_⟩
    have n1 := New.one (o := HO.tup [V.ty n, V.ty m]) k1.sub htp
    have rb := k1.resolve rv h1
    have rb2 : Rb X.K T _ _ v d := (k1.new n1).resolve (rv.fr n1.fr) h1
    exact ⟨v, tp, [.ty n, .ty m], .type t, [.type n, .type m], isN t n || isN t m, rfl, upd_same, .cons (.ty n) (.cons (.ty m) .nil), tyX_of n1.sub rb2 h2, kitAny2 hk hk2 (tyN_mem h2), q1 _ _ (k1.new n1) n1.fr _ Rz.bl_⟩
/-- isinstance(e, C), an own class, of an instance -/
structure IsC (K : PySem.W.Frag) (T : Tab) (c c' : Nat) (b : Bool) : Prop where
  cls : Cls K (T.cls c)
  at_ : PySem.W.findIn K (.ref (T.cls c)) "__class__" = some (some (.builtin "object.__class__"))
  get : PySem.W.specialIn K (.builtin "object.__class__") "__get__" = some (some (.builtin "getset_descriptor.__get__"))
  tk : PySem.W.takesIn K (.builtin "object.__class__") = some true
  top : PySem.W.mroIn K (T.cls c) (.type "object") = some true
  kit : PySem.W.kitOne K (.ref (T.cls c)) (.ref (T.cls c')) = some b
def dIsC (f : Nat → Option Bool) (o : DOn) : DEn := fun ρ => (o ρ).bind fun p => match res p.1 p.2 with
  | some (.ins c _) => (match f c with
    | some b => .ok (p.1, .bl b)
    | none => .bad)
  | _ => .bad
theorem de_isc {x : Str} {c' : Nat} {f : Nat → Option Bool} {e : Expr} {oo : DOn} {p p2 : Pos} (hk : ∀ c b, f c = some b → IsC X.K T c c' b) (h : DO X T W e oo) (hm : X.mg "isinstance" = none) (hm2 : X.mg x = some (.ref (T.cls c'))) (hg : Gl X "isinstance" := by rfl) (hg2 : Gl X x := by rfl)
    (hdb : (x == ("__debug__" : Str)) = false := by decide)
    (he : starEach [e, .Name x p2] X.env = (false, eval e X.env) :: starEach [.Name x p2] X.env := by rfl) (he2 : starEach [.Name x p2] X.env = (false, eval (.Name x p2) X.env) :: starEach [] X.env := by rfl)
    (hpl : (backTo pos (starEach [.Name x p2] X.env)).any (·.1) = false := by rfl) : DE X T W (.Call (.Name "isinstance" p) [e, .Name x p2] [] pos) (dIsC f oo) := by
  refine PE.imp (pe_callB call_isi hg hm PyProof.Rows.boot_isinstance (pa_cons h (pa_cons (pe_glob (v := V.ref (T.cls c')) hg2 hm2 rfl hdb) pa_nil he2) he) (by decide) (by decide) he hpl) fun σ H Q q => ?_
  obtain ⟨τ, ρ, G, k, q⟩ := q
  refine ⟨τ, ρ, G, k, (Out.bind q).imp fun ρ1 op G1 H1 k1 fr1 q1 v rv fv => ?_⟩
  dsimp only at q1
  split at q1
  · rename_i c xs h1
    cases hf : f c with
    | none => rw [hf] at q1; exact q1.elim
    | some b =>
      rw [hf] at q1
      obtain ⟨a, dx, fs, rfl, e2, e3, e4⟩ := Rb.ins k1.sub (k1.resolve rv h1)
      have o := hk c b hf
      exact ⟨.ref a, .ref (T.cls c'), .ref (T.cls c), .ref (T.cls c'), b, rfl, .own _, .base (.ins e2 o.cls o.at_ o.get o.tk o.top), o.kit, q1 G1 H1 k1 Fr.refl _ Rz.bl_⟩
  · exact q1.elim
end
end Zd
end
section
/-! Zd 18: what the printed texts lean on. -/
namespace Zd
open PySem PySem.Spec PyProof.Rows L2
set_option autoImplicit false
section
variable {X : Cx} {T : Tab} {W : WX} {pos : Pos}
theorem di_range3 {tg a b c : Expr} {da : DAn} {p : Pos} (ha : DA X T W [a, b, c] da) (hm : X.mg "range" = none) (hg : Gl X "range" := by rfl)
    (hs : starEach [a, b, c] X.env = (false, eval a X.env) :: starEach [b, c] X.env := by rfl) (hpl : (backTo pos (starEach [b, c] X.env)).any (·.1) = false := by rfl) :
    DI X T W tg (.Call (.Name "range" p) [a, b, c] [] pos) (iRes rng3 da) := by
  refine PI.imp (pi_range3 hg hm ha hs hpl) fun σ H Q q => ?_
  obtain ⟨τ, ρ, G, k, q⟩ := iRes_of q
  refine ⟨τ, ρ, G, k, q.imp fun ρ1 ops G1 H1 k1 fr1 q1 vs rvs fvs => ?_⟩
  obtain ⟨G2, ds, items, s, rb, e, q2⟩ := q1 vs rvs fvs
  unfold rng3 at e
  split at e
  · rename_i i j c
    obtain ⟨v, w, u, rfl, r, r2, r3⟩ := rb.three
    split at e
    · rename_i hc
      cases e
      obtain ⟨c0, c1, c2, c3⟩ := hc
      exact ⟨i, j, c, _, by rw [r.int, r2.int, r3.int], ⟨c0, c1, c2, c3⟩, q2 _ walks_rangeC⟩
    · cases e
  · cases e
end
structure FnAll (P : Program) (w : World) (K : PySem.W.Frag) (mg : Str → Option Value) (base : Heap) (T : Tab) (k : Nat) (f : Addr) (ps : List Str) (n : Nat) (F : CF) : Prop where
  ex : ∃ fd, FnOk P w K mg base (L2.CX P w) k f fd ps (spOf K T n F) ∧ Binds K fd ps [] ∧ PySem.W.keepIn K (.ref f) = true
  bad : ∀ bs, bs.length ≠ n → F bs = .bad
theorem fnAll {P : Program} {w : World} {K : PySem.W.Frag} {mg : Str → Option Value} {base : Heap} {T : Tab} {x qual : Str} {params : Arguments} {body : List Stmt} {scope : Scope} {f : Addr} {N ps : List Str} {k : Nat} {d : DSn}
    (F : ∃ fd, FunD K x qual params body scope [] [] f fd) (S : FnScope N ps scope)
    (hb : ∀ (kV doc pm : Value) (an : Option Addr) (cdv ct : Value) (us : List Value), us.length = ps.length → bindArgs (PySem.W.fnOf x qual params body scope .none kV doc pm an cdv ct) ⟨us, []⟩ = pure (ps.zip us))
    (hbody : ∀ (cdv : Value) (A : Around) (outer : List PySem.Env) (s : Shared) (H : Hp) (E : XK), Room k (A.deeper (envOfC qual scope s.heap.objs.size f cdv)) →
      DSs (cxOf (L2.CX P w) P w K mg base N qual scope f cdv A outer s H E) T (WB E) body d) : FnAll P w K mg base T (k + 1) f ps ps.length (cfOf N.length ps.length d) := by
  obtain ⟨fd, F⟩ := F
  exact ⟨⟨fd, fn_spec F S hbody, F.bindsN hb, F.kp⟩, fun bs h => cfOf_bad bs h⟩
section
variable {X : Cx} {T : Tab} {k k' n c : Nat} {f : Addr} {ps : List Str} {F : CF} {E : XK}
theorem FnAll.fok (h : FnAll X.prog X.w X.K X.mg X.base T k f ps n F) (hr : Room k' X.A) (hk : k ≤ k' := by decide) : FOk X T E f n F := by
  obtain ⟨⟨fd, h1, h2, h3⟩, h4⟩ := h
  exact ⟨⟨fd, ps, k, h1, hr.mono hk, h2, h3⟩, h4⟩
theorem FnAll.kok (h : FnAll X.prog X.w X.K X.mg X.base T k f ps n F) (M : Mk X.K (T.cls c) f) (hr : Room k' X.A) (hk : k + 1 ≤ k' := by decide) : KOk X T c n F := by
  obtain ⟨⟨fd, h1, h2, h3⟩, h4⟩ := h
  exact ⟨⟨f, fd, ps, k, M, h1, hr.mono hk, h2⟩, h4⟩
/-- a method, ready -/
structure MRow (X : Cx) (T : Tab) (m : Str) (n : Nat) (k' : Nat) (c : Nat) (F : CF) : Prop where
  ex : ∃ (f : Addr) (ps : List Str) (k : Nat), k ≤ k' ∧ FnAll X.prog X.w X.K X.mg X.base T k f ps n F ∧ Cls X.K (T.cls c) ∧ Meth X.K (T.cls c) m f ∧ m ∉ T.lay c
theorem FnAll.mrow {m : Str} (h : FnAll X.prog X.w X.K X.mg X.base T k f ps n F) (cl : Cls X.K (T.cls c)) (mt : Meth X.K (T.cls c) m f) (hl : m ∉ T.lay c := by decide) (hk : k ≤ k' := by decide) : MRow X T m n k' c F := ⟨⟨f, ps, k, hk, h, cl, mt, hl⟩⟩
theorem mok_of {m : Str} {M : Nat → Option CF} (hr : Room k' X.A) (h : ∀ c F, M c = some F → MRow X T m n k' c F) (hs : ∃ c F, M c = some F) : MOk X T m (fun _ => n) M := by
  refine ⟨fun c F e => ?_, hs⟩
  obtain ⟨f, ps, k, hk, ⟨⟨fd, h1, h2, h3⟩, h4⟩, cl, mt, hl⟩ := (h c F e).ex
  exact ⟨cl, hl, h4, f, fd, ps, k, mt, h1, hr.mono hk, h2⟩
theorem bok_of {M : Nat → Option CF} {A' : Around} (hr : Room k' A') (h : ∀ c F, M c = some F → MRow X T "__bool__" 1 k' c F) : BOk X T A' M := by
  refine ⟨fun c F e => ?_⟩
  obtain ⟨f, ps, k, hk, ⟨⟨fd, h1, h2, h3⟩, h4⟩, cl, mt, hl⟩ := (h c F e).ex
  exact ⟨h4, f, fd, ps, k, mt.at_, mt.fn, h1, hr.mono hk, h2⟩
theorem room_in {A : Around} (hr : Room (k + 2) A) : Room k A.in1.in1 := hr.in1.in1
theorem u65 {A : Around} (hr : Room k A) : A.units + 65 < cLine := by have := hr.un; omega
end
section
variable {P : Program} {w : World} {K : PySem.W.Frag} {mg : Str → Option Value} {base : Heap} {N : List Str} {qual : Str} {scope : Scope} {f : Addr} {cd : Value} {A : Around} {outer : List PySem.Env} {s : Shared} {H : Hp} {E : XK}
theorem px_cx : Psx (cxOf (L2.CX P w) P w K mg base N qual scope f cd A outer s H E) (WB E) E := psx_of (takes_of rfl rfl rfl rfl)
theorem hp_cx : PassesOwn (model P w) (cxOf (L2.CX P w) P w K mg base N qual scope f cd A outer s H E).A (cxOf (L2.CX P w) P w K mg base N qual scope f cd A outer s H E).env (cxOf (L2.CX P w) P w K mg base N qual scope f cd A outer s H E).xe := passes_of rfl
end
end Zd
end
section
set_option maxHeartbeats 0
/-! printed: the defs of neverlies_k94_looks_tie -/
namespace A
open PySem PySem.Spec PyProof.Rows L2 Zd
set_option autoImplicit false
def top (i : Nat) : Stmt := PySem.Challenge.pw_neverlies_k94_looks_tie.main.body.getD i (.Pass ⟨0, 0, 0, 0⟩)
/-! ### classes, attributes -/
def nmC : Nat → Str
  | 0 => "Queue"
  | 1 => "Fits"
  | 2 => "Stuck"
  | 3 => "Looks"
  | 4 => "Sure"
  | 5 => "Lying"
  | 6 => "Rung"
  | 7 => "Missed"
  | _ => ""
def layC : Nat → List Str
  | 0 => ["kind", "room", "letters"]
  | 1 => []
  | 2 => ["place", "why"]
  | 3 => ["every", "many", "above"]
  | 4 => []
  | 5 => ["lengths"]
  | 6 => []
  | 7 => ["lengths"]
  | _ => []
def TT (K : PySem.W.Frag) : Tab := { cls := fun c => He.ga K (nmC c), lay := layC, exc := fun _ => 0, xlay := fun _ => [] }
def fp_above : Nat → Option Nat
  | 3 => some 2
  | _ => none
def fp_every : Nat → Option Nat
  | 3 => some 0
  | _ => none
def fp_kind : Nat → Option Nat
  | 0 => some 0
  | _ => none
def fp_lengths : Nat → Option Nat
  | 5 => some 0
  | 7 => some 0
  | _ => none
def fp_letters : Nat → Option Nat
  | 0 => some 2
  | _ => none
def fp_many : Nat → Option Nat
  | 3 => some 1
  | _ => none
def fp_place : Nat → Option Nat
  | 2 => some 0
  | _ => none
def fp_room : Nat → Option Nat
  | 0 => some 1
  | _ => none
def fp_why : Nat → Option Nat
  | 2 => some 1
  | _ => none
def iz_Looks : Nat → Option Bool
  | 3 => some true
  | _ => none
def vL_KINDS : List D := [.str "row", .str "heap"]
def vv_KINDS : D := .tup vL_KINDS
def vv_MOST_MOVES : D := .int 40
def vv_MOST_ROOM : D := .int 9
def vv_MOST_STRETCH : D := .int 40
def vv_MOST_TICKS : D := .int 80
/-! ### the text by places -/
abbrev s_is_integer : Stmt := top 4
abbrev s_is_number : Stmt := top 7
abbrev s_is_row : Stmt := top 5
abbrev s_Fitsdd_booldd : Stmt := inClass (top 17) 0
abbrev s_Stuckdd_booldd : Stmt := inClass (top 18) 1
abbrev s_Suredd_booldd : Stmt := inClass (top 32) 0
abbrev s_Lyingdd_booldd : Stmt := inClass (top 33) 1
abbrev s_Rungdd_booldd : Stmt := inClass (top 37) 0
abbrev s_Misseddd_booldd : Stmt := inClass (top 38) 1
abbrev s_check_letters : Stmt := top 14
abbrev s_check_queue : Stmt := top 13
abbrev s_Queuedd_initdd : Stmt := inClass (top 12) 0
abbrev s_Queue_is_full : Stmt := inClass (top 12) 2
abbrev s_Queue_nexts : Stmt := inClass (top 12) 4
abbrev s_Queue_put : Stmt := inClass (top 12) 3
abbrev s_Queue_take : Stmt := inClass (top 12) 5
abbrev s_Stuckdd_initdd : Stmt := inClass (top 18) 0
abbrev s_is_queue_move : Stmt := top 15
abbrev s_check_moves : Stmt := top 16
abbrev s_judge_moves : Stmt := top 19
abbrev s_Fits_shows : Stmt := inClass (top 17) 2
abbrev s_Looksdd_initdd : Stmt := inClass (top 24) 0
abbrev s_Looks_span : Stmt := inClass (top 24) 2
abbrev s_kept_row : Stmt := top 6
abbrev s_Lyingdd_initdd : Stmt := inClass (top 33) 0
abbrev s_check_looks : Stmt := top 25
abbrev s_check_step : Stmt := top 26
abbrev s_check_claim : Stmt := top 34
abbrev s_is_lengths : Stmt := top 27
abbrev s_check_lengths : Stmt := top 28
abbrev s_rings_of : Stmt := top 29
abbrev s_is_true_ring : Stmt := top 31
abbrev s_Lying_shows : Stmt := inClass (top 33) 3
abbrev s_Misseddd_initdd : Stmt := inClass (top 38) 0
abbrev s_check_stretch : Stmt := top 39
abbrev s_Missed_shows : Stmt := inClass (top 38) 3
abbrev s_latest_ring : Stmt := top 40
abbrev s_judge_misses : Stmt := top 41
abbrev s_Rung_shows : Stmt := inClass (top 37) 2
abbrev s_Stuck_shows : Stmt := inClass (top 18) 3
abbrev s_least_between : Stmt := top 35
abbrev s_judge_rings : Stmt := top 36
abbrev s_Sure_shows : Stmt := inClass (top 32) 2
abbrev s__law_cell_at : Stmt := top 45
abbrev s__law_draw : Stmt := top 46
abbrev s__law_number : Stmt := top 47
abbrev s__law_next : Stmt := top 48
abbrev s__law_lengths : Stmt := top 49
abbrev s_least_room : Stmt := top 20
abbrev s_lengths_behind : Stmt := top 42
abbrev s_stretches_above : Stmt := top 30
abbrev s_widest_looks : Stmt := top 43
abbrev s_law : Stmt := top 50
/-! ### what the head tells -/
structure Ctx (K : PySem.W.Frag) (mg : Str → Option Value) : Prop where
  g_is_integer : mg "is_integer" = some (.ref (He.ga K "is_integer"))
  g_is_number : mg "is_number" = some (.ref (He.ga K "is_number"))
  g_is_row : mg "is_row" = some (.ref (He.ga K "is_row"))
  g_check_letters : mg "check_letters" = some (.ref (He.ga K "check_letters"))
  g_check_queue : mg "check_queue" = some (.ref (He.ga K "check_queue"))
  g_is_queue_move : mg "is_queue_move" = some (.ref (He.ga K "is_queue_move"))
  g_check_moves : mg "check_moves" = some (.ref (He.ga K "check_moves"))
  g_judge_moves : mg "judge_moves" = some (.ref (He.ga K "judge_moves"))
  g_kept_row : mg "kept_row" = some (.ref (He.ga K "kept_row"))
  g_check_looks : mg "check_looks" = some (.ref (He.ga K "check_looks"))
  g_check_step : mg "check_step" = some (.ref (He.ga K "check_step"))
  g_check_claim : mg "check_claim" = some (.ref (He.ga K "check_claim"))
  g_is_lengths : mg "is_lengths" = some (.ref (He.ga K "is_lengths"))
  g_check_lengths : mg "check_lengths" = some (.ref (He.ga K "check_lengths"))
  g_rings_of : mg "rings_of" = some (.ref (He.ga K "rings_of"))
  g_is_true_ring : mg "is_true_ring" = some (.ref (He.ga K "is_true_ring"))
  g_check_stretch : mg "check_stretch" = some (.ref (He.ga K "check_stretch"))
  g_latest_ring : mg "latest_ring" = some (.ref (He.ga K "latest_ring"))
  g_judge_misses : mg "judge_misses" = some (.ref (He.ga K "judge_misses"))
  g_least_between : mg "least_between" = some (.ref (He.ga K "least_between"))
  g_judge_rings : mg "judge_rings" = some (.ref (He.ga K "judge_rings"))
  g__law_cell_at : mg "_law_cell_at" = some (.ref (He.ga K "_law_cell_at"))
  g__law_draw : mg "_law_draw" = some (.ref (He.ga K "_law_draw"))
  g__law_number : mg "_law_number" = some (.ref (He.ga K "_law_number"))
  g__law_next : mg "_law_next" = some (.ref (He.ga K "_law_next"))
  g__law_lengths : mg "_law_lengths" = some (.ref (He.ga K "_law_lengths"))
  g_least_room : mg "least_room" = some (.ref (He.ga K "least_room"))
  g_lengths_behind : mg "lengths_behind" = some (.ref (He.ga K "lengths_behind"))
  g_stretches_above : mg "stretches_above" = some (.ref (He.ga K "stretches_above"))
  g_widest_looks : mg "widest_looks" = some (.ref (He.ga K "widest_looks"))
  g_law : mg "law" = some (.ref (He.ga K "law"))
  g_Queue : mg "Queue" = some (.ref (He.ga K "Queue"))
  k_Queue : Cls K (He.ga K "Queue")
  g_Fits : mg "Fits" = some (.ref (He.ga K "Fits"))
  k_Fits : Cls K (He.ga K "Fits")
  g_Stuck : mg "Stuck" = some (.ref (He.ga K "Stuck"))
  k_Stuck : Cls K (He.ga K "Stuck")
  g_Looks : mg "Looks" = some (.ref (He.ga K "Looks"))
  k_Looks : Cls K (He.ga K "Looks")
  g_Sure : mg "Sure" = some (.ref (He.ga K "Sure"))
  k_Sure : Cls K (He.ga K "Sure")
  g_Lying : mg "Lying" = some (.ref (He.ga K "Lying"))
  k_Lying : Cls K (He.ga K "Lying")
  g_Rung : mg "Rung" = some (.ref (He.ga K "Rung"))
  k_Rung : Cls K (He.ga K "Rung")
  g_Missed : mg "Missed" = some (.ref (He.ga K "Missed"))
  k_Missed : Cls K (He.ga K "Missed")
  n_abs : mg "abs" = none
  n_all : mg "all" = none
  n_any : mg "any" = none
  n_bool : mg "bool" = none
  n_enumerate : mg "enumerate" = none
  n_int : mg "int" = none
  n_isinstance : mg "isinstance" = none
  n_len : mg "len" = none
  n_list : mg "list" = none
  n_max : mg "max" = none
  n_min : mg "min" = none
  n_range : mg "range" = none
  n_set : mg "set" = none
  n_sorted : mg "sorted" = none
  n_str : mg "str" = none
  n_sum : mg "sum" = none
  n_tuple : mg "tuple" = none
  n_zip : mg "zip" = none
  v_KINDS : mg "KINDS" = some (.ref (He.ga K "KINDS")) ∧ ∀ G : Hp, Rz K (TT K) G (.ref (He.ga K "KINDS")) vv_KINDS
  v_MOST_MOVES : ∃ t, mg "MOST_MOVES" = some (.int 40 t)
  v_MOST_ROOM : ∃ t, mg "MOST_ROOM" = some (.int 9 t)
  v_MOST_STRETCH : ∃ t, mg "MOST_STRETCH" = some (.int 40 t)
  v_MOST_TICKS : ∃ t, mg "MOST_TICKS" = some (.int 80 t)
  no_Looks_above : NoAttr K (He.ga K "Looks") "above"
  no_Looks_every : NoAttr K (He.ga K "Looks") "every"
  no_Queue_kind : NoAttr K (He.ga K "Queue") "kind"
  no_Lying_lengths : NoAttr K (He.ga K "Lying") "lengths"
  no_Missed_lengths : NoAttr K (He.ga K "Missed") "lengths"
  no_Queue_letters : NoAttr K (He.ga K "Queue") "letters"
  no_Looks_many : NoAttr K (He.ga K "Looks") "many"
  no_Stuck_place : NoAttr K (He.ga K "Stuck") "place"
  no_Queue_room : NoAttr K (He.ga K "Queue") "room"
  no_Stuck_why : NoAttr K (He.ga K "Stuck") "why"
  mk_Queue : Mk K (He.ga K "Queue") (He.ma K (He.ga K "Queue") "__init__")
  mk_Fits : Mk00 K (He.ga K "Fits")
  mk_Stuck : Mk K (He.ga K "Stuck") (He.ma K (He.ga K "Stuck") "__init__")
  mk_Looks : Mk K (He.ga K "Looks") (He.ma K (He.ga K "Looks") "__init__")
  mk_Sure : Mk00 K (He.ga K "Sure")
  mk_Lying : Mk K (He.ga K "Lying") (He.ma K (He.ga K "Lying") "__init__")
  mk_Rung : Mk00 K (He.ga K "Rung")
  mk_Missed : Mk K (He.ga K "Missed") (He.ma K (He.ga K "Missed") "__init__")
  isc_Looks : IsC K (TT K) 3 3 true
  m_Fits___bool__ : Meth K (He.ga K "Fits") "__bool__" (He.ma K (He.ga K "Fits") "__bool__")
  m_Stuck___bool__ : Meth K (He.ga K "Stuck") "__bool__" (He.ma K (He.ga K "Stuck") "__bool__")
  m_Sure___bool__ : Meth K (He.ga K "Sure") "__bool__" (He.ma K (He.ga K "Sure") "__bool__")
  m_Lying___bool__ : Meth K (He.ga K "Lying") "__bool__" (He.ma K (He.ga K "Lying") "__bool__")
  m_Rung___bool__ : Meth K (He.ga K "Rung") "__bool__" (He.ma K (He.ga K "Rung") "__bool__")
  m_Missed___bool__ : Meth K (He.ga K "Missed") "__bool__" (He.ma K (He.ga K "Missed") "__bool__")
  m_Queue_is_full : Meth K (He.ga K "Queue") "is_full" (He.ma K (He.ga K "Queue") "is_full")
  m_Queue_nexts : Meth K (He.ga K "Queue") "nexts" (He.ma K (He.ga K "Queue") "nexts")
  m_Queue_put : Meth K (He.ga K "Queue") "put" (He.ma K (He.ga K "Queue") "put")
  m_Fits_shows : Meth K (He.ga K "Fits") "shows" (He.ma K (He.ga K "Fits") "shows")
  m_Stuck_shows : Meth K (He.ga K "Stuck") "shows" (He.ma K (He.ga K "Stuck") "shows")
  m_Sure_shows : Meth K (He.ga K "Sure") "shows" (He.ma K (He.ga K "Sure") "shows")
  m_Lying_shows : Meth K (He.ga K "Lying") "shows" (He.ma K (He.ga K "Lying") "shows")
  m_Rung_shows : Meth K (He.ga K "Rung") "shows" (He.ma K (He.ga K "Rung") "shows")
  m_Missed_shows : Meth K (He.ga K "Missed") "shows" (He.ma K (He.ga K "Missed") "shows")
  m_Looks_span : Meth K (He.ga K "Looks") "span" (He.ma K (He.ga K "Looks") "span")
  m_Queue_take : Meth K (He.ga K "Queue") "take" (He.ma K (He.ga K "Queue") "take")
  f_is_integer : ∃ fd, FunD K "is_integer" "is_integer" (defArgs s_is_integer) (defBody s_is_integer) (defScope s_is_integer) [] [] (He.ga K "is_integer") fd
  f_is_number : ∃ fd, FunD K "is_number" "is_number" (defArgs s_is_number) (defBody s_is_number) (defScope s_is_number) [] [] (He.ga K "is_number") fd
  f_is_row : ∃ fd, FunD K "is_row" "is_row" (defArgs s_is_row) (defBody s_is_row) (defScope s_is_row) [] [] (He.ga K "is_row") fd
  f_Fitsdd_booldd : ∃ fd, FunD K "__bool__" "Fits.__bool__" (defArgs s_Fitsdd_booldd) (defBody s_Fitsdd_booldd) (defScope s_Fitsdd_booldd) [] [] (He.ma K (He.ga K "Fits") "__bool__") fd
  f_Stuckdd_booldd : ∃ fd, FunD K "__bool__" "Stuck.__bool__" (defArgs s_Stuckdd_booldd) (defBody s_Stuckdd_booldd) (defScope s_Stuckdd_booldd) [] [] (He.ma K (He.ga K "Stuck") "__bool__") fd
  f_Suredd_booldd : ∃ fd, FunD K "__bool__" "Sure.__bool__" (defArgs s_Suredd_booldd) (defBody s_Suredd_booldd) (defScope s_Suredd_booldd) [] [] (He.ma K (He.ga K "Sure") "__bool__") fd
  f_Lyingdd_booldd : ∃ fd, FunD K "__bool__" "Lying.__bool__" (defArgs s_Lyingdd_booldd) (defBody s_Lyingdd_booldd) (defScope s_Lyingdd_booldd) [] [] (He.ma K (He.ga K "Lying") "__bool__") fd
  f_Rungdd_booldd : ∃ fd, FunD K "__bool__" "Rung.__bool__" (defArgs s_Rungdd_booldd) (defBody s_Rungdd_booldd) (defScope s_Rungdd_booldd) [] [] (He.ma K (He.ga K "Rung") "__bool__") fd
  f_Misseddd_booldd : ∃ fd, FunD K "__bool__" "Missed.__bool__" (defArgs s_Misseddd_booldd) (defBody s_Misseddd_booldd) (defScope s_Misseddd_booldd) [] [] (He.ma K (He.ga K "Missed") "__bool__") fd
  f_check_letters : ∃ fd, FunD K "check_letters" "check_letters" (defArgs s_check_letters) (defBody s_check_letters) (defScope s_check_letters) [] [] (He.ga K "check_letters") fd
  f_check_queue : ∃ fd, FunD K "check_queue" "check_queue" (defArgs s_check_queue) (defBody s_check_queue) (defScope s_check_queue) [] [] (He.ga K "check_queue") fd
  f_Queuedd_initdd : ∃ fd, FunD K "__init__" "Queue.__init__" (defArgs s_Queuedd_initdd) (defBody s_Queuedd_initdd) (defScope s_Queuedd_initdd) [] [] (He.ma K (He.ga K "Queue") "__init__") fd
  f_Queue_is_full : ∃ fd, FunD K "is_full" "Queue.is_full" (defArgs s_Queue_is_full) (defBody s_Queue_is_full) (defScope s_Queue_is_full) [] [] (He.ma K (He.ga K "Queue") "is_full") fd
  f_Queue_nexts : ∃ fd, FunD K "nexts" "Queue.nexts" (defArgs s_Queue_nexts) (defBody s_Queue_nexts) (defScope s_Queue_nexts) [] [] (He.ma K (He.ga K "Queue") "nexts") fd
  f_Queue_put : ∃ fd, FunD K "put" "Queue.put" (defArgs s_Queue_put) (defBody s_Queue_put) (defScope s_Queue_put) [] [] (He.ma K (He.ga K "Queue") "put") fd
  f_Queue_take : ∃ fd, FunD K "take" "Queue.take" (defArgs s_Queue_take) (defBody s_Queue_take) (defScope s_Queue_take) [] [] (He.ma K (He.ga K "Queue") "take") fd
  f_Stuckdd_initdd : ∃ fd, FunD K "__init__" "Stuck.__init__" (defArgs s_Stuckdd_initdd) (defBody s_Stuckdd_initdd) (defScope s_Stuckdd_initdd) [] [] (He.ma K (He.ga K "Stuck") "__init__") fd
  f_is_queue_move : ∃ fd, FunD K "is_queue_move" "is_queue_move" (defArgs s_is_queue_move) (defBody s_is_queue_move) (defScope s_is_queue_move) [] [] (He.ga K "is_queue_move") fd
  f_check_moves : ∃ fd, FunD K "check_moves" "check_moves" (defArgs s_check_moves) (defBody s_check_moves) (defScope s_check_moves) [] [] (He.ga K "check_moves") fd
  f_judge_moves : ∃ fd, FunD K "judge_moves" "judge_moves" (defArgs s_judge_moves) (defBody s_judge_moves) (defScope s_judge_moves) [] [] (He.ga K "judge_moves") fd
  f_Fits_shows : ∃ fd, FunD K "shows" "Fits.shows" (defArgs s_Fits_shows) (defBody s_Fits_shows) (defScope s_Fits_shows) [] [] (He.ma K (He.ga K "Fits") "shows") fd
  f_Looksdd_initdd : ∃ fd, FunD K "__init__" "Looks.__init__" (defArgs s_Looksdd_initdd) (defBody s_Looksdd_initdd) (defScope s_Looksdd_initdd) [] [] (He.ma K (He.ga K "Looks") "__init__") fd
  f_Looks_span : ∃ fd, FunD K "span" "Looks.span" (defArgs s_Looks_span) (defBody s_Looks_span) (defScope s_Looks_span) [] [] (He.ma K (He.ga K "Looks") "span") fd
  f_kept_row : ∃ fd, FunD K "kept_row" "kept_row" (defArgs s_kept_row) (defBody s_kept_row) (defScope s_kept_row) [] [] (He.ga K "kept_row") fd
  f_Lyingdd_initdd : ∃ fd, FunD K "__init__" "Lying.__init__" (defArgs s_Lyingdd_initdd) (defBody s_Lyingdd_initdd) (defScope s_Lyingdd_initdd) [] [] (He.ma K (He.ga K "Lying") "__init__") fd
  f_check_looks : ∃ fd, FunD K "check_looks" "check_looks" (defArgs s_check_looks) (defBody s_check_looks) (defScope s_check_looks) [] [] (He.ga K "check_looks") fd
  f_check_step : ∃ fd, FunD K "check_step" "check_step" (defArgs s_check_step) (defBody s_check_step) (defScope s_check_step) [] [] (He.ga K "check_step") fd
  f_check_claim : ∃ fd, FunD K "check_claim" "check_claim" (defArgs s_check_claim) (defBody s_check_claim) (defScope s_check_claim) [] [] (He.ga K "check_claim") fd
  f_is_lengths : ∃ fd, FunD K "is_lengths" "is_lengths" (defArgs s_is_lengths) (defBody s_is_lengths) (defScope s_is_lengths) [] [] (He.ga K "is_lengths") fd
  f_check_lengths : ∃ fd, FunD K "check_lengths" "check_lengths" (defArgs s_check_lengths) (defBody s_check_lengths) (defScope s_check_lengths) [] [] (He.ga K "check_lengths") fd
  f_rings_of : ∃ fd, FunD K "rings_of" "rings_of" (defArgs s_rings_of) (defBody s_rings_of) (defScope s_rings_of) [] [] (He.ga K "rings_of") fd
  f_is_true_ring : ∃ fd, FunD K "is_true_ring" "is_true_ring" (defArgs s_is_true_ring) (defBody s_is_true_ring) (defScope s_is_true_ring) [] [] (He.ga K "is_true_ring") fd
  f_Lying_shows : ∃ fd, FunD K "shows" "Lying.shows" (defArgs s_Lying_shows) (defBody s_Lying_shows) (defScope s_Lying_shows) [] [] (He.ma K (He.ga K "Lying") "shows") fd
  f_Misseddd_initdd : ∃ fd, FunD K "__init__" "Missed.__init__" (defArgs s_Misseddd_initdd) (defBody s_Misseddd_initdd) (defScope s_Misseddd_initdd) [] [] (He.ma K (He.ga K "Missed") "__init__") fd
  f_check_stretch : ∃ fd, FunD K "check_stretch" "check_stretch" (defArgs s_check_stretch) (defBody s_check_stretch) (defScope s_check_stretch) [] [] (He.ga K "check_stretch") fd
  f_Missed_shows : ∃ fd, FunD K "shows" "Missed.shows" (defArgs s_Missed_shows) (defBody s_Missed_shows) (defScope s_Missed_shows) [] [] (He.ma K (He.ga K "Missed") "shows") fd
  f_latest_ring : ∃ fd, FunD K "latest_ring" "latest_ring" (defArgs s_latest_ring) (defBody s_latest_ring) (defScope s_latest_ring) [] [] (He.ga K "latest_ring") fd
  f_judge_misses : ∃ fd, FunD K "judge_misses" "judge_misses" (defArgs s_judge_misses) (defBody s_judge_misses) (defScope s_judge_misses) [] [] (He.ga K "judge_misses") fd
  f_Rung_shows : ∃ fd, FunD K "shows" "Rung.shows" (defArgs s_Rung_shows) (defBody s_Rung_shows) (defScope s_Rung_shows) [] [] (He.ma K (He.ga K "Rung") "shows") fd
  f_Stuck_shows : ∃ fd, FunD K "shows" "Stuck.shows" (defArgs s_Stuck_shows) (defBody s_Stuck_shows) (defScope s_Stuck_shows) [] [] (He.ma K (He.ga K "Stuck") "shows") fd
  f_least_between : ∃ fd, FunD K "least_between" "least_between" (defArgs s_least_between) (defBody s_least_between) (defScope s_least_between) [] [] (He.ga K "least_between") fd
  f_judge_rings : ∃ fd, FunD K "judge_rings" "judge_rings" (defArgs s_judge_rings) (defBody s_judge_rings) (defScope s_judge_rings) [] [] (He.ga K "judge_rings") fd
  f_Sure_shows : ∃ fd, FunD K "shows" "Sure.shows" (defArgs s_Sure_shows) (defBody s_Sure_shows) (defScope s_Sure_shows) [] [] (He.ma K (He.ga K "Sure") "shows") fd
  f__law_cell_at : ∃ fd, FunD K "_law_cell_at" "_law_cell_at" (defArgs s__law_cell_at) (defBody s__law_cell_at) (defScope s__law_cell_at) [] [] (He.ga K "_law_cell_at") fd
  f__law_draw : ∃ fd, FunD K "_law_draw" "_law_draw" (defArgs s__law_draw) (defBody s__law_draw) (defScope s__law_draw) [] [] (He.ga K "_law_draw") fd
  f__law_number : ∃ fd, FunD K "_law_number" "_law_number" (defArgs s__law_number) (defBody s__law_number) (defScope s__law_number) [] [] (He.ga K "_law_number") fd
  f__law_next : ∃ fd, FunD K "_law_next" "_law_next" (defArgs s__law_next) (defBody s__law_next) (defScope s__law_next) [] [] (He.ga K "_law_next") fd
  f__law_lengths : ∃ fd, FunD K "_law_lengths" "_law_lengths" (defArgs s__law_lengths) (defBody s__law_lengths) (defScope s__law_lengths) [] [] (He.ga K "_law_lengths") fd
  f_least_room : ∃ fd, FunD K "least_room" "least_room" (defArgs s_least_room) (defBody s_least_room) (defScope s_least_room) [] [] (He.ga K "least_room") fd
  f_lengths_behind : ∃ fd, FunD K "lengths_behind" "lengths_behind" (defArgs s_lengths_behind) (defBody s_lengths_behind) (defScope s_lengths_behind) [] [] (He.ga K "lengths_behind") fd
  f_stretches_above : ∃ fd, FunD K "stretches_above" "stretches_above" (defArgs s_stretches_above) (defBody s_stretches_above) (defScope s_stretches_above) [] [] (He.ga K "stretches_above") fd
  f_widest_looks : ∃ fd, FunD K "widest_looks" "widest_looks" (defArgs s_widest_looks) (defBody s_widest_looks) (defScope s_widest_looks) [] [] (He.ga K "widest_looks") fd
  f_law : ∃ fd, FunD K "law" "law" (defArgs s_law) (defBody s_law) (defScope s_law) [] [] (He.ga K "law") fd
section
variable {K : PySem.W.Frag} {mg : Str → Option Value}
theorem Ctx.c_KINDS {X : Cx} {W : WX} {pos : Pos} (Z : Ctx K mg) (hK : X.K = K := by rfl) (hm : X.mg = mg := by rfl) (hg : Gl X "KINDS" := by rfl) : DE X (TT K) W (.Name "KINDS" pos) (dC vv_KINDS) := by
  subst hK hm
  exact de_glob (v := V.ref (He.ga X.K "KINDS")) Z.v_KINDS.1 rfl Z.v_KINDS.2 hg
theorem Ctx.c_MOST_MOVES {X : Cx} {W : WX} {pos : Pos} (Z : Ctx K mg) (hK : X.K = K := by rfl) (hm : X.mg = mg := by rfl) (hg : Gl X "MOST_MOVES" := by rfl) : DE X (TT K) W (.Name "MOST_MOVES" pos) (dC vv_MOST_MOVES) := by
  subst hK hm
  exact Z.v_MOST_MOVES.elim fun t h => de_glob (v := V.int 40) h ⟨t, rfl⟩ (fun _ => Rz.int_) hg
theorem Ctx.c_MOST_ROOM {X : Cx} {W : WX} {pos : Pos} (Z : Ctx K mg) (hK : X.K = K := by rfl) (hm : X.mg = mg := by rfl) (hg : Gl X "MOST_ROOM" := by rfl) : DE X (TT K) W (.Name "MOST_ROOM" pos) (dC vv_MOST_ROOM) := by
  subst hK hm
  exact Z.v_MOST_ROOM.elim fun t h => de_glob (v := V.int 9) h ⟨t, rfl⟩ (fun _ => Rz.int_) hg
theorem Ctx.c_MOST_STRETCH {X : Cx} {W : WX} {pos : Pos} (Z : Ctx K mg) (hK : X.K = K := by rfl) (hm : X.mg = mg := by rfl) (hg : Gl X "MOST_STRETCH" := by rfl) : DE X (TT K) W (.Name "MOST_STRETCH" pos) (dC vv_MOST_STRETCH) := by
  subst hK hm
  exact Z.v_MOST_STRETCH.elim fun t h => de_glob (v := V.int 40) h ⟨t, rfl⟩ (fun _ => Rz.int_) hg
theorem Ctx.c_MOST_TICKS {X : Cx} {W : WX} {pos : Pos} (Z : Ctx K mg) (hK : X.K = K := by rfl) (hm : X.mg = mg := by rfl) (hg : Gl X "MOST_TICKS" := by rfl) : DE X (TT K) W (.Name "MOST_TICKS" pos) (dC vv_MOST_TICKS) := by
  subst hK hm
  exact Z.v_MOST_TICKS.elim fun t h => de_glob (v := V.int 80) h ⟨t, rfl⟩ (fun _ => Rz.int_) hg
theorem Ctx.a_above (Z : Ctx K mg) : FldOk K (TT K) "above" fp_above := fun c i e => by
  unfold fp_above at e
  split at e
  · cases e; exact ⟨Z.k_Looks, Z.no_Looks_above, rfl, by show (layC 3).Nodup; decide +kernel⟩
  · cases e
theorem Ctx.a_every (Z : Ctx K mg) : FldOk K (TT K) "every" fp_every := fun c i e => by
  unfold fp_every at e
  split at e
  · cases e; exact ⟨Z.k_Looks, Z.no_Looks_every, rfl, by show (layC 3).Nodup; decide +kernel⟩
  · cases e
theorem Ctx.a_kind (Z : Ctx K mg) : FldOk K (TT K) "kind" fp_kind := fun c i e => by
  unfold fp_kind at e
  split at e
  · cases e; exact ⟨Z.k_Queue, Z.no_Queue_kind, rfl, by show (layC 0).Nodup; decide +kernel⟩
  · cases e
theorem Ctx.a_lengths (Z : Ctx K mg) : FldOk K (TT K) "lengths" fp_lengths := fun c i e => by
  unfold fp_lengths at e
  split at e
  · cases e; exact ⟨Z.k_Lying, Z.no_Lying_lengths, rfl, by show (layC 5).Nodup; decide +kernel⟩
  · cases e; exact ⟨Z.k_Missed, Z.no_Missed_lengths, rfl, by show (layC 7).Nodup; decide +kernel⟩
  · cases e
theorem Ctx.a_letters (Z : Ctx K mg) : FldOk K (TT K) "letters" fp_letters := fun c i e => by
  unfold fp_letters at e
  split at e
  · cases e; exact ⟨Z.k_Queue, Z.no_Queue_letters, rfl, by show (layC 0).Nodup; decide +kernel⟩
  · cases e
theorem Ctx.a_many (Z : Ctx K mg) : FldOk K (TT K) "many" fp_many := fun c i e => by
  unfold fp_many at e
  split at e
  · cases e; exact ⟨Z.k_Looks, Z.no_Looks_many, rfl, by show (layC 3).Nodup; decide +kernel⟩
  · cases e
theorem Ctx.a_place (Z : Ctx K mg) : FldOk K (TT K) "place" fp_place := fun c i e => by
  unfold fp_place at e
  split at e
  · cases e; exact ⟨Z.k_Stuck, Z.no_Stuck_place, rfl, by show (layC 2).Nodup; decide +kernel⟩
  · cases e
theorem Ctx.a_room (Z : Ctx K mg) : FldOk K (TT K) "room" fp_room := fun c i e => by
  unfold fp_room at e
  split at e
  · cases e; exact ⟨Z.k_Queue, Z.no_Queue_room, rfl, by show (layC 0).Nodup; decide +kernel⟩
  · cases e
theorem Ctx.a_why (Z : Ctx K mg) : FldOk K (TT K) "why" fp_why := fun c i e => by
  unfold fp_why at e
  split at e
  · cases e; exact ⟨Z.k_Stuck, Z.no_Stuck_why, rfl, by show (layC 2).Nodup; decide +kernel⟩
  · cases e
theorem Ctx.is_Looks (Z : Ctx K mg) : ∀ c b, iz_Looks c = some b → IsC K (TT K) c 3 b := fun c b e => by
  unfold iz_Looks at e
  split at e
  · cases e; exact Z.isc_Looks
  · cases e
end
/-! ### the defs -/
section
variable {P : Program} {w : World} {K : PySem.W.Frag} {mg : Str → Option Value} {base : Heap}
def D_is_integer : DSn :=
    (dRet (dAnd (dIsi "int" (oPl 0)) (dNot (dBl (dIsi "bool" (oPl 0))))))
def F_is_integer : CF := cfOf 1 1 D_is_integer
theorem sc_is_integer : FnScope ["thing"] ["thing"] (defScope s_is_integer) := ⟨rfl, rfl, rfl, by decide +kernel, rfl, by decide +kernel, by decide +kernel⟩
theorem ok_is_integer (Z : Ctx K mg) : FnAll P w K mg base (TT K) 1 (He.ga K "is_integer") ["thing"] 1 F_is_integer :=
  fnAll (k := 0) Z.f_is_integer sc_is_integer (fun _ _ _ _ _ _ us hl => match us, hl with | [_], _ => rfl) fun cdv A outer s H E hr => by
    have hN := sc_is_integer.nd
    exact (dss_one (ds_ret (de_and (de_isi kit_int (do_pl (pv 0)) Z.n_isinstance Z.n_int boot_int) (de_one (de_not (de_isi kit_bool (do_pl (pv 0)) Z.n_isinstance Z.n_bool boot_bool))))))
def D_is_number : DSn :=
    (dRet (dAnd (dCall F_is_integer (aCons (oPl 0) aNil)) (d3 leD leD (oPl 1) (oPl 0) (oPl 2))))
def F_is_number : CF := cfOf 3 3 D_is_number
theorem sc_is_number : FnScope ["thing", "low", "high"] ["thing", "low", "high"] (defScope s_is_number) := ⟨rfl, rfl, rfl, by decide +kernel, rfl, by decide +kernel, by decide +kernel⟩
theorem ok_is_number (Z : Ctx K mg) : FnAll P w K mg base (TT K) 4 (He.ga K "is_number") ["thing", "low", "high"] 3 F_is_number :=
  fnAll (k := 3) Z.f_is_number sc_is_number (fun _ _ _ _ _ _ us hl => match us, hl with | [_, _, _], _ => rfl) fun cdv A outer s H E hr => by
    have hN := sc_is_number.nd
    exact (dss_one (ds_ret (de_and (de_call px_cx ((ok_is_integer Z).fok hr) Z.g_is_integer (da_cons (do_pl (pv 0)) da_nil)) (de_one (de_chain s_le op_le s_le op_le (do_pl (pv 1)) (do_pl (pv 0)) (do_pl (pv 2)))))))
def D_is_row : DSn :=
    (dRet (dIsi2 "list" "tuple" (oPl 0)))
def F_is_row : CF := cfOf 1 1 D_is_row
theorem sc_is_row : FnScope ["thing"] ["thing"] (defScope s_is_row) := ⟨rfl, rfl, rfl, by decide +kernel, rfl, by decide +kernel, by decide +kernel⟩
theorem ok_is_row (Z : Ctx K mg) : FnAll P w K mg base (TT K) 1 (He.ga K "is_row") ["thing"] 1 F_is_row :=
  fnAll (k := 0) Z.f_is_row sc_is_row (fun _ _ _ _ _ _ us hl => match us, hl with | [_], _ => rfl) fun cdv A outer s H E hr => by
    have hN := sc_is_row.nd
    exact (dss_one (ds_ret (de_isi2 kit_list kit_tuple (do_pl (pv 0)) Z.n_isinstance Z.n_list boot_list Z.n_tuple boot_tuple)))
def D_Fitsdd_booldd : DSn :=
    (dRet (dC (.bl true)))
def F_Fitsdd_booldd : CF := cfOf 1 1 D_Fitsdd_booldd
theorem sc_Fitsdd_booldd : FnScope ["self"] ["self"] (defScope s_Fitsdd_booldd) := ⟨rfl, rfl, rfl, by decide +kernel, rfl, by decide +kernel, by decide +kernel⟩
theorem ok_Fitsdd_booldd (Z : Ctx K mg) : FnAll P w K mg base (TT K) 1 (He.ma K (He.ga K "Fits") "__bool__") ["self"] 1 F_Fitsdd_booldd :=
  fnAll (k := 0) Z.f_Fitsdd_booldd sc_Fitsdd_booldd (fun _ _ _ _ _ _ us hl => match us, hl with | [_], _ => rfl) fun cdv A outer s H E hr => by
    have hN := sc_Fitsdd_booldd.nd
    exact (dss_one (ds_ret de_bl))
def D_Stuckdd_booldd : DSn :=
    (dRet (dC (.bl false)))
def F_Stuckdd_booldd : CF := cfOf 1 1 D_Stuckdd_booldd
theorem sc_Stuckdd_booldd : FnScope ["self"] ["self"] (defScope s_Stuckdd_booldd) := ⟨rfl, rfl, rfl, by decide +kernel, rfl, by decide +kernel, by decide +kernel⟩
theorem ok_Stuckdd_booldd (Z : Ctx K mg) : FnAll P w K mg base (TT K) 1 (He.ma K (He.ga K "Stuck") "__bool__") ["self"] 1 F_Stuckdd_booldd :=
  fnAll (k := 0) Z.f_Stuckdd_booldd sc_Stuckdd_booldd (fun _ _ _ _ _ _ us hl => match us, hl with | [_], _ => rfl) fun cdv A outer s H E hr => by
    have hN := sc_Stuckdd_booldd.nd
    exact (dss_one (ds_ret de_bl))
def D_Suredd_booldd : DSn :=
    (dRet (dC (.bl true)))
def F_Suredd_booldd : CF := cfOf 1 1 D_Suredd_booldd
theorem sc_Suredd_booldd : FnScope ["self"] ["self"] (defScope s_Suredd_booldd) := ⟨rfl, rfl, rfl, by decide +kernel, rfl, by decide +kernel, by decide +kernel⟩
theorem ok_Suredd_booldd (Z : Ctx K mg) : FnAll P w K mg base (TT K) 1 (He.ma K (He.ga K "Sure") "__bool__") ["self"] 1 F_Suredd_booldd :=
  fnAll (k := 0) Z.f_Suredd_booldd sc_Suredd_booldd (fun _ _ _ _ _ _ us hl => match us, hl with | [_], _ => rfl) fun cdv A outer s H E hr => by
    have hN := sc_Suredd_booldd.nd
    exact (dss_one (ds_ret de_bl))
def D_Lyingdd_booldd : DSn :=
    (dRet (dC (.bl false)))
def F_Lyingdd_booldd : CF := cfOf 1 1 D_Lyingdd_booldd
theorem sc_Lyingdd_booldd : FnScope ["self"] ["self"] (defScope s_Lyingdd_booldd) := ⟨rfl, rfl, rfl, by decide +kernel, rfl, by decide +kernel, by decide +kernel⟩
theorem ok_Lyingdd_booldd (Z : Ctx K mg) : FnAll P w K mg base (TT K) 1 (He.ma K (He.ga K "Lying") "__bool__") ["self"] 1 F_Lyingdd_booldd :=
  fnAll (k := 0) Z.f_Lyingdd_booldd sc_Lyingdd_booldd (fun _ _ _ _ _ _ us hl => match us, hl with | [_], _ => rfl) fun cdv A outer s H E hr => by
    have hN := sc_Lyingdd_booldd.nd
    exact (dss_one (ds_ret de_bl))
def D_Rungdd_booldd : DSn :=
    (dRet (dC (.bl true)))
def F_Rungdd_booldd : CF := cfOf 1 1 D_Rungdd_booldd
theorem sc_Rungdd_booldd : FnScope ["self"] ["self"] (defScope s_Rungdd_booldd) := ⟨rfl, rfl, rfl, by decide +kernel, rfl, by decide +kernel, by decide +kernel⟩
theorem ok_Rungdd_booldd (Z : Ctx K mg) : FnAll P w K mg base (TT K) 1 (He.ma K (He.ga K "Rung") "__bool__") ["self"] 1 F_Rungdd_booldd :=
  fnAll (k := 0) Z.f_Rungdd_booldd sc_Rungdd_booldd (fun _ _ _ _ _ _ us hl => match us, hl with | [_], _ => rfl) fun cdv A outer s H E hr => by
    have hN := sc_Rungdd_booldd.nd
    exact (dss_one (ds_ret de_bl))
def D_Misseddd_booldd : DSn :=
    (dRet (dC (.bl false)))
def F_Misseddd_booldd : CF := cfOf 1 1 D_Misseddd_booldd
theorem sc_Misseddd_booldd : FnScope ["self"] ["self"] (defScope s_Misseddd_booldd) := ⟨rfl, rfl, rfl, by decide +kernel, rfl, by decide +kernel, by decide +kernel⟩
theorem ok_Misseddd_booldd (Z : Ctx K mg) : FnAll P w K mg base (TT K) 1 (He.ma K (He.ga K "Missed") "__bool__") ["self"] 1 F_Misseddd_booldd :=
  fnAll (k := 0) Z.f_Misseddd_booldd sc_Misseddd_booldd (fun _ _ _ _ _ _ us hl => match us, hl with | [_], _ => rfl) fun cdv A outer s H E hr => by
    have hN := sc_Misseddd_booldd.nd
    exact (dss_one (ds_ret de_bl))
def M_bool : Nat → Option CF
  | 1 => some F_Fitsdd_booldd
  | 2 => some F_Stuckdd_booldd
  | 4 => some F_Suredd_booldd
  | 5 => some F_Lyingdd_booldd
  | 6 => some F_Rungdd_booldd
  | 7 => some F_Misseddd_booldd
  | _ => none
theorem rows_bool {X : Cx} {k' : Nat} (Z : Ctx X.K X.mg) (hk : 1 ≤ k' := by decide) : ∀ c F, M_bool c = some F → MRow X (TT X.K) "__bool__" 1 k' c F := fun c F e => by
  unfold M_bool at e
  split at e
  · cases e; exact (ok_Fitsdd_booldd Z).mrow (c := 1) Z.k_Fits Z.m_Fits___bool__ (by show _ ∉ layC 1; decide +kernel) (Nat.le_trans (by decide) hk)
  · cases e; exact (ok_Stuckdd_booldd Z).mrow (c := 2) Z.k_Stuck Z.m_Stuck___bool__ (by show _ ∉ layC 2; decide +kernel) (Nat.le_trans (by decide) hk)
  · cases e; exact (ok_Suredd_booldd Z).mrow (c := 4) Z.k_Sure Z.m_Sure___bool__ (by show _ ∉ layC 4; decide +kernel) (Nat.le_trans (by decide) hk)
  · cases e; exact (ok_Lyingdd_booldd Z).mrow (c := 5) Z.k_Lying Z.m_Lying___bool__ (by show _ ∉ layC 5; decide +kernel) (Nat.le_trans (by decide) hk)
  · cases e; exact (ok_Rungdd_booldd Z).mrow (c := 6) Z.k_Rung Z.m_Rung___bool__ (by show _ ∉ layC 6; decide +kernel) (Nat.le_trans (by decide) hk)
  · cases e; exact (ok_Misseddd_booldd Z).mrow (c := 7) Z.k_Missed Z.m_Missed___bool__ (by show _ ∉ layC 7; decide +kernel) (Nat.le_trans (by decide) hk)
  · cases e
theorem some_bool : ∃ c F, M_bool c = some F := ⟨1, _, rfl⟩
def D_check_letters : DSn :=
    (dSeq (dIte (tOrD (tNotD (dTru M_bool (oV (dCall F_is_row (aCons (oPl 1) aNil))))) (dBl (d2 gtD (oV (dL lenD (aCons (oPl 1) aNil))) (oV (dC vv_MOST_MOVES))))) dNever (dEnd .nx))
    (dFor (iVals enum1 (aCons (oV (dName 1)) aNil)) (gTp (gsCons (gNm 2) (gsCons (gNm 3) gsNil)))
    (dIte (tNotD (dTru M_bool (oV (dCall F_is_number (aCons (oPl 3) (aCons (oV (dC (.int 0))) (aCons (oV (dC (.int 9))) aNil))))))) dNever (dEnd .nx))))
def F_check_letters : CF := cfOf 4 2 D_check_letters
theorem sc_check_letters : FnScope ["part", "letters", "place", "letter"] ["part", "letters"] (defScope s_check_letters) := ⟨rfl, rfl, rfl, by decide +kernel, rfl, by decide +kernel, by decide +kernel⟩
theorem ok_check_letters (Z : Ctx K mg) : FnAll P w K mg base (TT K) 7 (He.ga K "check_letters") ["part", "letters"] 2 F_check_letters :=
  fnAll (k := 6) Z.f_check_letters sc_check_letters (fun _ _ _ _ _ _ us hl => match us, hl with | [_, _], _ => rfl) fun cdv A outer s H E hr => by
    have hN := sc_check_letters.nd
    exact (dss_cons (ds_if (dt_w (dw_or (dt_not (dt_tru (bok_of hr (rows_bool Z)) (do_v (de_call px_cx ((ok_is_row Z).fok hr) Z.g_is_row (da_cons (do_pl (pv 1)) da_nil))))) (dw_or1 (dt_cmp s_gt op_gt (do_v (de_callB snd_len call_len2 (da_cons (do_pl (pv 1)) da_nil) Z.n_len boot_len)) (do_v Z.c_MOST_MOVES))))) (dss_one ds_never) dss_nil)
    (dss_one (ds_for hp_cx rfl (di_enum (da_cons (do_v (de_name (pv 1))) da_nil) Z.n_enumerate) (dg_tup rfl (dgs_cons (dg_name hN) (dgs_cons (dg_name hN) dgs_nil)) (takes_cons (takes_cons takes_nil)))
    (dss_one (ds_if (dt_not (dt_tru (bok_of hr (rows_bool Z)) (do_v (de_call px_cx ((ok_is_number Z).fok hr) Z.g_is_number (da_cons (do_pl (pv 3)) (da_cons (do_v de_int) (da_cons (do_v de_int) da_nil))))))) (dss_one ds_never) dss_nil)))))
def D_check_queue : DSn :=
    (dSeq (dIte (tOrD (tNotD (dBl (dIsi "str" (oPl 0)))) (dBl (d2 (inD true) (oPl 0) (oV (dC vv_KINDS))))) dNever (dEnd .nx))
    (dIte (tNotD (dTru M_bool (oV (dCall F_is_number (aCons (oPl 1) (aCons (oV (dC (.int 0))) (aCons (oV (dC vv_MOST_ROOM)) aNil))))))) dNever (dEnd .nx)))
def F_check_queue : CF := cfOf 2 2 D_check_queue
theorem sc_check_queue : FnScope ["kind", "room"] ["kind", "room"] (defScope s_check_queue) := ⟨rfl, rfl, rfl, by decide +kernel, rfl, by decide +kernel, by decide +kernel⟩
theorem ok_check_queue (Z : Ctx K mg) : FnAll P w K mg base (TT K) 7 (He.ga K "check_queue") ["kind", "room"] 2 F_check_queue :=
  fnAll (k := 6) Z.f_check_queue sc_check_queue (fun _ _ _ _ _ _ us hl => match us, hl with | [_, _], _ => rfl) fun cdv A outer s H E hr => by
    have hN := sc_check_queue.nd
    exact (dss_cons (ds_if (dt_w (dw_or (dt_not (dt_val (de_isi kit_str (do_pl (pv 0)) Z.n_isinstance Z.n_str boot_str))) (dw_or1 (dt_cmp s_in (op_notInA (u65 hr)) (do_pl (pv 0)) (do_v Z.c_KINDS))))) (dss_one ds_never) dss_nil)
    (dss_one (ds_if (dt_not (dt_tru (bok_of hr (rows_bool Z)) (do_v (de_call px_cx ((ok_is_number Z).fok hr) Z.g_is_number (da_cons (do_pl (pv 1)) (da_cons (do_v de_int) (da_cons (do_v Z.c_MOST_ROOM) da_nil))))))) (dss_one ds_never) dss_nil)))
def D_Queuedd_initdd : DSn :=
    (dSeq (dDrop (oV (dCall F_check_queue (aCons (oPl 1) (aCons (oPl 2) aNil)))))
    (dSeq (dIte (tOrD (tNotD (dTru M_bool (oV (dCall F_is_row (aCons (oPl 3) aNil))))) (dBl (d2 gtD (oV (dL lenD (aCons (oPl 3) aNil))) (oPl 2)))) dNever (dEnd .nx))
    (dSeq (dDrop (oV (dCall F_check_letters (aCons (oV (dC (.str "letters"))) (aCons (oPl 3) aNil)))))
    (dSeq (dSetFld 0 fp_kind (dName 1))
    (dSeq (dSetFld 0 fp_room (dName 2))
    (dSetFld 0 fp_letters (dL tupleD (aCons (oPl 3) aNil))))))))
def F_Queuedd_initdd : CF := cfOf 4 4 D_Queuedd_initdd
theorem sc_Queuedd_initdd : FnScope ["self", "kind", "room", "letters"] ["self", "kind", "room", "letters"] (defScope s_Queuedd_initdd) := ⟨rfl, rfl, rfl, by decide +kernel, rfl, by decide +kernel, by decide +kernel⟩
theorem ok_Queuedd_initdd (Z : Ctx K mg) : FnAll P w K mg base (TT K) 10 (He.ma K (He.ga K "Queue") "__init__") ["self", "kind", "room", "letters"] 4 F_Queuedd_initdd :=
  fnAll (k := 9) Z.f_Queuedd_initdd sc_Queuedd_initdd (fun _ _ _ _ _ _ us hl => match us, hl with | [_, _, _, _], _ => rfl) fun cdv A outer s H E hr => by
    have hN := sc_Queuedd_initdd.nd
    exact (dss_cons (ds_expr (do_v (de_call px_cx ((ok_check_queue Z).fok hr) Z.g_check_queue (da_cons (do_pl (pv 1)) (da_cons (do_pl (pv 2)) da_nil)))))
    (dss_cons (ds_if (dt_w (dw_or (dt_not (dt_tru (bok_of hr (rows_bool Z)) (do_v (de_call px_cx ((ok_is_row Z).fok hr) Z.g_is_row (da_cons (do_pl (pv 3)) da_nil))))) (dw_or1 (dt_cmp s_gt op_gt (do_v (de_callB snd_len call_len2 (da_cons (do_pl (pv 3)) da_nil) Z.n_len boot_len)) (do_pl (pv 2)))))) (dss_one ds_never) dss_nil)
    (dss_cons (ds_expr (do_v (de_call px_cx ((ok_check_letters Z).fok hr) Z.g_check_letters (da_cons (do_v de_str) (da_cons (do_pl (pv 3)) da_nil)))))
    (dss_cons (ds_setFld Z.a_kind (pv 0) (de_name (pv 1)))
    (dss_cons (ds_setFld Z.a_room (pv 0) (de_name (pv 2)))
    (dss_one (ds_setFld Z.a_letters (pv 0) (de_callTy snd_tuple call_tupleP (da_cons (do_pl (pv 3)) da_nil) Z.n_tuple boot_tuple))))))))
def D_Queue_is_full : DSn :=
    (dRet (d2 eqD (oV (dL lenD (aCons (oV (dFld fp_letters (oPl 0))) aNil))) (oV (dFld fp_room (oPl 0)))))
def F_Queue_is_full : CF := cfOf 1 1 D_Queue_is_full
theorem sc_Queue_is_full : FnScope ["self"] ["self"] (defScope s_Queue_is_full) := ⟨rfl, rfl, rfl, by decide +kernel, rfl, by decide +kernel, by decide +kernel⟩
theorem ok_Queue_is_full (Z : Ctx K mg) : FnAll P w K mg base (TT K) 1 (He.ma K (He.ga K "Queue") "is_full") ["self"] 1 F_Queue_is_full :=
  fnAll (k := 0) Z.f_Queue_is_full sc_Queue_is_full (fun _ _ _ _ _ _ us hl => match us, hl with | [_], _ => rfl) fun cdv A outer s H E hr => by
    have hN := sc_Queue_is_full.nd
    exact (dss_one (ds_ret (de_cmp s_eq (op_eqD hr.units) (do_v (de_callB snd_len call_len2 (da_cons (do_v (de_fld Z.a_letters (do_pl (pv 0)))) da_nil) Z.n_len boot_len)) (do_v (de_fld Z.a_room (do_pl (pv 0)))))))
def D_Queue_nexts : DSn :=
    (dRet (dIf (dBl (d2 eqD (oV (dFld fp_kind (oPl 0))) (oV (dC (.str "row"))))) (dSl (oV (dFld fp_letters (oPl 0))) pNo (pSome (dC (.int 1)))) (dL tupleD (aCons (oV (dSos (dFld fp_letters (oPl 0)))) aNil))))
def F_Queue_nexts : CF := cfOf 1 1 D_Queue_nexts
theorem sc_Queue_nexts : FnScope ["self"] ["self"] (defScope s_Queue_nexts) := ⟨rfl, rfl, rfl, by decide +kernel, rfl, by decide +kernel, by decide +kernel⟩
theorem ok_Queue_nexts (Z : Ctx K mg) : FnAll P w K mg base (TT K) 1 (He.ma K (He.ga K "Queue") "nexts") ["self"] 1 F_Queue_nexts :=
  fnAll (k := 0) Z.f_Queue_nexts sc_Queue_nexts (fun _ _ _ _ _ _ us hl => match us, hl with | [_], _ => rfl) fun cdv A outer s H E hr => by
    have hN := sc_Queue_nexts.nd
    exact (dss_one (ds_ret (de_if (dt_cmp s_eq (op_eqD hr.units) (do_v (de_fld Z.a_kind (do_pl (pv 0)))) (do_v de_str)) (de_slice (do_v (de_fld Z.a_letters (do_pl (pv 0)))) dp_none (dp_some de_int)) (de_callTy snd_tuple call_tupleP (da_cons (do_v (de_sos rfl (de_fld Z.a_letters (do_pl (pv 0))) Z.n_sorted Z.n_set)) da_nil) Z.n_tuple boot_tuple))))
def M_is_full : Nat → Option CF
  | 0 => some F_Queue_is_full
  | _ => none
theorem rows_is_full {X : Cx} {k' : Nat} (Z : Ctx X.K X.mg) (hk : 1 ≤ k' := by decide) : ∀ c F, M_is_full c = some F → MRow X (TT X.K) "is_full" 1 k' c F := fun c F e => by
  unfold M_is_full at e
  split at e
  · cases e; exact (ok_Queue_is_full Z).mrow (c := 0) Z.k_Queue Z.m_Queue_is_full (by show _ ∉ layC 0; decide +kernel) (Nat.le_trans (by decide) hk)
  · cases e
theorem some_is_full : ∃ c F, M_is_full c = some F := ⟨0, _, rfl⟩
def D_Queue_put : DSn :=
    (dSeq (dIte (tOrD (tNotD (dTru M_bool (oV (dCall F_is_number (aCons (oPl 1) (aCons (oV (dC (.int 0))) (aCons (oV (dC (.int 9))) aNil))))))) (dTru M_bool (oV (dMeth M_is_full (oPl 0) aNil)))) dNever (dEnd .nx))
    (dRet (dFz (oMake 0 F_Queuedd_initdd (aCons (oV (dFld fp_kind (oPl 0))) (aCons (oV (dFld fp_room (oPl 0))) (aCons (oV (dTup (aStar (oV (dFld fp_letters (oPl 0))) (aCons (oV (dName 1)) aNil)))) aNil)))))))
def F_Queue_put : CF := cfOf 2 2 D_Queue_put
theorem sc_Queue_put : FnScope ["self", "letter"] ["self", "letter"] (defScope s_Queue_put) := ⟨rfl, rfl, rfl, by decide +kernel, rfl, by decide +kernel, by decide +kernel⟩
theorem ok_Queue_put (Z : Ctx K mg) : FnAll P w K mg base (TT K) 13 (He.ma K (He.ga K "Queue") "put") ["self", "letter"] 2 F_Queue_put :=
  fnAll (k := 12) Z.f_Queue_put sc_Queue_put (fun _ _ _ _ _ _ us hl => match us, hl with | [_, _], _ => rfl) fun cdv A outer s H E hr => by
    have hN := sc_Queue_put.nd
    exact (dss_cons (ds_if (dt_w (dw_or (dt_not (dt_tru (bok_of hr (rows_bool Z)) (do_v (de_call px_cx ((ok_is_number Z).fok hr) Z.g_is_number (da_cons (do_pl (pv 1)) (da_cons (do_v de_int) (da_cons (do_v de_int) da_nil))))))) (dw_or1 (dt_tru (bok_of hr (rows_bool Z)) (do_v (de_meth0 px_cx (mok_of hr (rows_is_full Z) some_is_full) (do_pl (pv 0)))))))) (dss_one ds_never) dss_nil)
    (dss_one (ds_ret (de_o (do_make px_cx ((ok_Queuedd_initdd Z).kok Z.mk_Queue hr) Z.g_Queue (da_cons (do_v (de_fld Z.a_kind (do_pl (pv 0)))) (da_cons (do_v (de_fld Z.a_room (do_pl (pv 0)))) (da_cons (do_v (de_tup (da_star (do_v (de_fld Z.a_letters (do_pl (pv 0)))) (da_cons (do_v (de_name (pv 1))) da_nil)))) da_nil))))))))
def M_nexts : Nat → Option CF
  | 0 => some F_Queue_nexts
  | _ => none
theorem rows_nexts {X : Cx} {k' : Nat} (Z : Ctx X.K X.mg) (hk : 1 ≤ k' := by decide) : ∀ c F, M_nexts c = some F → MRow X (TT X.K) "nexts" 1 k' c F := fun c F e => by
  unfold M_nexts at e
  split at e
  · cases e; exact (ok_Queue_nexts Z).mrow (c := 0) Z.k_Queue Z.m_Queue_nexts (by show _ ∉ layC 0; decide +kernel) (Nat.le_trans (by decide) hk)
  · cases e
theorem some_nexts : ∃ c F, M_nexts c = some F := ⟨0, _, rfl⟩
def D_Queue_take : DSn :=
    (dSeq (dIte (tOrD (tNotD (dTru M_bool (oV (dCall F_is_number (aCons (oPl 1) (aCons (oV (dC (.int 0))) (aCons (oV (dC (.int 9))) aNil))))))) (dBl (d2 (inD true) (oPl 1) (oV (dMeth M_nexts (oPl 0) aNil))))) dNever (dEnd .nx))
    (dSeq (dSet 2 (oV (dTM indexD (oV (dFld fp_letters (oPl 0))) (aCons (oPl 1) aNil))))
    (dRet (dFz (oMake 0 F_Queuedd_initdd (aCons (oV (dFld fp_kind (oPl 0))) (aCons (oV (dFld fp_room (oPl 0))) (aCons (oV (dTup (aStar (oV (dSl (oV (dFld fp_letters (oPl 0))) pNo (pSome (dName 2)))) (aStar (oV (dSl (oV (dFld fp_letters (oPl 0))) (pSome (d2 addD (oPl 2) (oV (dC (.int 1))))) pNo)) aNil)))) aNil))))))))
def F_Queue_take : CF := cfOf 3 2 D_Queue_take
theorem sc_Queue_take : FnScope ["self", "letter", "place"] ["self", "letter"] (defScope s_Queue_take) := ⟨rfl, rfl, rfl, by decide +kernel, rfl, by decide +kernel, by decide +kernel⟩
theorem ok_Queue_take (Z : Ctx K mg) : FnAll P w K mg base (TT K) 13 (He.ma K (He.ga K "Queue") "take") ["self", "letter"] 2 F_Queue_take :=
  fnAll (k := 12) Z.f_Queue_take sc_Queue_take (fun _ _ _ _ _ _ us hl => match us, hl with | [_, _], _ => rfl) fun cdv A outer s H E hr => by
    have hN := sc_Queue_take.nd
    exact (dss_cons (ds_if (dt_w (dw_or (dt_not (dt_tru (bok_of hr (rows_bool Z)) (do_v (de_call px_cx ((ok_is_number Z).fok hr) Z.g_is_number (da_cons (do_pl (pv 1)) (da_cons (do_v de_int) (da_cons (do_v de_int) da_nil))))))) (dw_or1 (dt_cmp s_in (op_notInA (u65 hr)) (do_pl (pv 1)) (do_v (de_meth0 px_cx (mok_of hr (rows_nexts Z) some_nexts) (do_pl (pv 0)))))))) (dss_one ds_never) dss_nil)
    (dss_cons (ds_set (i := 2) hN (do_v (de_tm snd_index PySem.F.slot_tuple_index PySem.F.type_tuple_index mt_tup_indexI (do_v (de_fld Z.a_letters (do_pl (pv 0)))) (da_cons (do_pl (pv 1)) da_nil))))
    (dss_one (ds_ret (de_o (do_make px_cx ((ok_Queuedd_initdd Z).kok Z.mk_Queue hr) Z.g_Queue (da_cons (do_v (de_fld Z.a_kind (do_pl (pv 0)))) (da_cons (do_v (de_fld Z.a_room (do_pl (pv 0)))) (da_cons (do_v (de_tup (da_star (do_v (de_slice (do_v (de_fld Z.a_letters (do_pl (pv 0)))) dp_none (dp_some (de_name (pv 2))))) (da_star (do_v (de_slice (do_v (de_fld Z.a_letters (do_pl (pv 0)))) (dp_some (de_add (do_pl (pv 2)) (do_v de_int))) dp_none)) da_nil)))) da_nil)))))))))
def D_Stuckdd_initdd : DSn :=
    (dSeq (dSetFld 0 fp_place (dName 1))
    (dSetFld 0 fp_why (dName 2)))
def F_Stuckdd_initdd : CF := cfOf 3 3 D_Stuckdd_initdd
theorem sc_Stuckdd_initdd : FnScope ["self", "place", "why"] ["self", "place", "why"] (defScope s_Stuckdd_initdd) := ⟨rfl, rfl, rfl, by decide +kernel, rfl, by decide +kernel, by decide +kernel⟩
theorem ok_Stuckdd_initdd (Z : Ctx K mg) : FnAll P w K mg base (TT K) 1 (He.ma K (He.ga K "Stuck") "__init__") ["self", "place", "why"] 3 F_Stuckdd_initdd :=
  fnAll (k := 0) Z.f_Stuckdd_initdd sc_Stuckdd_initdd (fun _ _ _ _ _ _ us hl => match us, hl with | [_, _, _], _ => rfl) fun cdv A outer s H E hr => by
    have hN := sc_Stuckdd_initdd.nd
    exact (dss_cons (ds_setFld Z.a_place (pv 0) (de_name (pv 1)))
    (dss_one (ds_setFld Z.a_why (pv 0) (de_name (pv 2)))))
def D_is_queue_move : DSn :=
    (dRet (dAnd (dIsi "tuple" (oPl 0)) (dAnd (d2 eqD (oV (dL lenD (aCons (oPl 0) aNil))) (oV (dC (.int 2)))) (dAnd (d2 (inD false) (oV (d2 ixD (oPl 0) (oV (dC (.int 0))))) (oV (dTup (aCons (oV (dC (.str "in"))) (aCons (oV (dC (.str "out"))) aNil))))) (dCall F_is_number (aCons (oV (d2 ixD (oPl 0) (oV (dC (.int 1))))) (aCons (oV (dC (.int 0))) (aCons (oV (dC (.int 9))) aNil))))))))
def F_is_queue_move : CF := cfOf 1 1 D_is_queue_move
theorem sc_is_queue_move : FnScope ["move"] ["move"] (defScope s_is_queue_move) := ⟨rfl, rfl, rfl, by decide +kernel, rfl, by decide +kernel, by decide +kernel⟩
theorem ok_is_queue_move (Z : Ctx K mg) : FnAll P w K mg base (TT K) 7 (He.ga K "is_queue_move") ["move"] 1 F_is_queue_move :=
  fnAll (k := 6) Z.f_is_queue_move sc_is_queue_move (fun _ _ _ _ _ _ us hl => match us, hl with | [_], _ => rfl) fun cdv A outer s H E hr => by
    have hN := sc_is_queue_move.nd
    exact (dss_one (ds_ret (de_and (de_isi kit_tuple (do_pl (pv 0)) Z.n_isinstance Z.n_tuple boot_tuple) (de_and (de_cmp s_eq (op_eqD hr.units) (do_v (de_callB snd_len call_len2 (da_cons (do_pl (pv 0)) da_nil) Z.n_len boot_len)) (do_v de_int)) (de_and (de_cmp s_in (op_inA (u65 hr)) (do_v (de_ix (do_pl (pv 0)) (do_v de_int))) (do_v (de_tup (da_cons (do_v de_str) (da_cons (do_v de_str) da_nil))))) (de_one (de_call px_cx ((ok_is_number Z).fok hr) Z.g_is_number (da_cons (do_v (de_ix (do_pl (pv 0)) (do_v de_int))) (da_cons (do_v de_int) (da_cons (do_v de_int) da_nil))))))))))
def D_check_moves : DSn :=
    (dSeq (dIte (tOrD (tNotD (dTru M_bool (oV (dCall F_is_row (aCons (oPl 0) aNil))))) (dBl (d2 gtD (oV (dL lenD (aCons (oPl 0) aNil))) (oV (dC vv_MOST_MOVES))))) dNever (dEnd .nx))
    (dFor (iVals enum1 (aCons (oV (dName 0)) aNil)) (gTp (gsCons (gNm 1) (gsCons (gNm 2) gsNil)))
    (dIte (tNotD (dTru M_bool (oV (dCall F_is_queue_move (aCons (oPl 2) aNil))))) dNever (dEnd .nx))))
def F_check_moves : CF := cfOf 3 1 D_check_moves
theorem sc_check_moves : FnScope ["moves", "place", "move"] ["moves"] (defScope s_check_moves) := ⟨rfl, rfl, rfl, by decide +kernel, rfl, by decide +kernel, by decide +kernel⟩
theorem ok_check_moves (Z : Ctx K mg) : FnAll P w K mg base (TT K) 10 (He.ga K "check_moves") ["moves"] 1 F_check_moves :=
  fnAll (k := 9) Z.f_check_moves sc_check_moves (fun _ _ _ _ _ _ us hl => match us, hl with | [_], _ => rfl) fun cdv A outer s H E hr => by
    have hN := sc_check_moves.nd
    exact (dss_cons (ds_if (dt_w (dw_or (dt_not (dt_tru (bok_of hr (rows_bool Z)) (do_v (de_call px_cx ((ok_is_row Z).fok hr) Z.g_is_row (da_cons (do_pl (pv 0)) da_nil))))) (dw_or1 (dt_cmp s_gt op_gt (do_v (de_callB snd_len call_len2 (da_cons (do_pl (pv 0)) da_nil) Z.n_len boot_len)) (do_v Z.c_MOST_MOVES))))) (dss_one ds_never) dss_nil)
    (dss_one (ds_for hp_cx rfl (di_enum (da_cons (do_v (de_name (pv 0))) da_nil) Z.n_enumerate) (dg_tup rfl (dgs_cons (dg_name hN) (dgs_cons (dg_name hN) dgs_nil)) (takes_cons (takes_cons takes_nil)))
    (dss_one (ds_if (dt_not (dt_tru (bok_of hr (rows_bool Z)) (do_v (de_call px_cx ((ok_is_queue_move Z).fok hr) Z.g_is_queue_move (da_cons (do_pl (pv 2)) da_nil))))) (dss_one ds_never) dss_nil)))))
def M_put : Nat → Option CF
  | 0 => some F_Queue_put
  | _ => none
theorem rows_put {X : Cx} {k' : Nat} (Z : Ctx X.K X.mg) (hk : 13 ≤ k' := by decide) : ∀ c F, M_put c = some F → MRow X (TT X.K) "put" 2 k' c F := fun c F e => by
  unfold M_put at e
  split at e
  · cases e; exact (ok_Queue_put Z).mrow (c := 0) Z.k_Queue Z.m_Queue_put (by show _ ∉ layC 0; decide +kernel) (Nat.le_trans (by decide) hk)
  · cases e
theorem some_put : ∃ c F, M_put c = some F := ⟨0, _, rfl⟩
def M_take : Nat → Option CF
  | 0 => some F_Queue_take
  | _ => none
theorem rows_take {X : Cx} {k' : Nat} (Z : Ctx X.K X.mg) (hk : 13 ≤ k' := by decide) : ∀ c F, M_take c = some F → MRow X (TT X.K) "take" 2 k' c F := fun c F e => by
  unfold M_take at e
  split at e
  · cases e; exact (ok_Queue_take Z).mrow (c := 0) Z.k_Queue Z.m_Queue_take (by show _ ∉ layC 0; decide +kernel) (Nat.le_trans (by decide) hk)
  · cases e
theorem some_take : ∃ c F, M_take c = some F := ⟨0, _, rfl⟩
def D_judge_moves : DSn :=
    (dSeq (dDrop (oV (dCall F_check_queue (aCons (oPl 0) (aCons (oPl 1) aNil)))))
    (dSeq (dDrop (oV (dCall F_check_moves (aCons (oPl 2) aNil))))
    (dSeq (dSet 3 (oV (dFz (oMake 0 F_Queuedd_initdd (aCons (oPl 0) (aCons (oPl 1) (aCons (oV (dTup aNil)) aNil)))))))
    (dSeq (dFor (iVals enum1 (aCons (oV (dName 2)) aNil)) (gTp (gsCons (gNm 4) (gsCons (gTp (gsCons (gNm 5) (gsCons (gNm 6) gsNil))) gsNil)))
    (dSeq (dIte (tAndD (dBl (d2 eqD (oPl 5) (oV (dC (.str "in"))))) (dTru M_bool (oV (dMeth M_is_full (oPl 3) aNil)))) (dRet (dFz (oMake 2 F_Stuckdd_initdd (aCons (oPl 4) (aCons (oV (dC (.str "full"))) aNil))))) (dEnd .nx))
    (dSeq (dIte (tAndD (dBl (d2 eqD (oPl 5) (oV (dC (.str "out"))))) (dBl (d2 (inD true) (oPl 6) (oV (dMeth M_nexts (oPl 3) aNil))))) (dRet (dFz (oMake 2 F_Stuckdd_initdd (aCons (oPl 4) (aCons (oV (dIf (dBl (d2 (inD false) (oPl 6) (oV (dFld fp_letters (oPl 3))))) (dC (.str "order")) (dC (.str "none")))) aNil))))) (dEnd .nx))
    (dSet 3 (oV (dIf (dBl (d2 eqD (oPl 5) (oV (dC (.str "in"))))) (dMeth M_put (oPl 3) (aCons (oPl 6) aNil)) (dMeth M_take (oPl 3) (aCons (oPl 6) aNil))))))))
    (dRet (dFz (oMake0 1)))))))
def F_judge_moves : CF := cfOf 7 3 D_judge_moves
theorem sc_judge_moves : FnScope ["kind", "room", "moves", "queue", "place", "word", "letter"] ["kind", "room", "moves"] (defScope s_judge_moves) := ⟨rfl, rfl, rfl, by decide +kernel, rfl, by decide +kernel, by decide +kernel⟩
theorem ok_judge_moves (Z : Ctx K mg) : FnAll P w K mg base (TT K) 16 (He.ga K "judge_moves") ["kind", "room", "moves"] 3 F_judge_moves :=
  fnAll (k := 15) Z.f_judge_moves sc_judge_moves (fun _ _ _ _ _ _ us hl => match us, hl with | [_, _, _], _ => rfl) fun cdv A outer s H E hr => by
    have hN := sc_judge_moves.nd
    exact (dss_cons (ds_expr (do_v (de_call px_cx ((ok_check_queue Z).fok hr) Z.g_check_queue (da_cons (do_pl (pv 0)) (da_cons (do_pl (pv 1)) da_nil)))))
    (dss_cons (ds_expr (do_v (de_call px_cx ((ok_check_moves Z).fok hr) Z.g_check_moves (da_cons (do_pl (pv 2)) da_nil))))
    (dss_cons (ds_set (i := 3) hN (do_v (de_o (do_make px_cx ((ok_Queuedd_initdd Z).kok Z.mk_Queue hr) Z.g_Queue (da_cons (do_pl (pv 0)) (da_cons (do_pl (pv 1)) (da_cons (do_v (de_tup da_nil)) da_nil)))))))
    (dss_cons (ds_for hp_cx rfl (di_enum (da_cons (do_v (de_name (pv 2))) da_nil) Z.n_enumerate) (dg_tup rfl (dgs_cons (dg_name hN) (dgs_cons (dg_tup rfl (dgs_cons (dg_name hN) (dgs_cons (dg_name hN) dgs_nil)) (takes_cons (takes_cons takes_nil))) dgs_nil)) (takes_cons (takes_cons takes_nil)))
    (dss_cons (ds_if (dt_w (dw_and (dt_cmp s_eq (op_eqD hr.units) (do_pl (pv 5)) (do_v de_str)) (dw_and1 (dt_tru (bok_of hr (rows_bool Z)) (do_v (de_meth0 px_cx (mok_of hr (rows_is_full Z) some_is_full) (do_pl (pv 3)))))))) (dss_one (ds_ret (de_o (do_make px_cx ((ok_Stuckdd_initdd Z).kok Z.mk_Stuck hr) Z.g_Stuck (da_cons (do_pl (pv 4)) (da_cons (do_v de_str) da_nil)))))) dss_nil)
    (dss_cons (ds_if (dt_w (dw_and (dt_cmp s_eq (op_eqD hr.units) (do_pl (pv 5)) (do_v de_str)) (dw_and1 (dt_cmp s_in (op_notInA (u65 hr)) (do_pl (pv 6)) (do_v (de_meth0 px_cx (mok_of hr (rows_nexts Z) some_nexts) (do_pl (pv 3)))))))) (dss_one (ds_ret (de_o (do_make px_cx ((ok_Stuckdd_initdd Z).kok Z.mk_Stuck hr) Z.g_Stuck (da_cons (do_pl (pv 4)) (da_cons (do_v (de_if (dt_cmp s_in (op_inA (u65 hr)) (do_pl (pv 6)) (do_v (de_fld Z.a_letters (do_pl (pv 3))))) de_str de_str)) da_nil)))))) dss_nil)
    (dss_one (ds_set (i := 3) hN (do_v (de_if (dt_cmp s_eq (op_eqD hr.units) (do_pl (pv 5)) (do_v de_str)) (de_meth px_cx (mok_of hr (rows_put Z) some_put) (do_pl (pv 3)) (da_cons (do_pl (pv 6)) da_nil)) (de_meth px_cx (mok_of hr (rows_take Z) some_take) (do_pl (pv 3)) (da_cons (do_pl (pv 6)) da_nil)))))))))
    (dss_one (ds_ret (de_o (do_make0 (c := 1) Z.mk_Fits Z.g_Fits))))))))
def D_Fits_shows : DSn :=
    (dRet (dBoolC M_bool (oV (dCall F_judge_moves (aCons (oPl 1) (aCons (oPl 2) (aCons (oPl 3) aNil)))))))
def F_Fits_shows : CF := cfOf 4 4 D_Fits_shows
theorem sc_Fits_shows : FnScope ["self", "kind", "room", "moves"] ["self", "kind", "room", "moves"] (defScope s_Fits_shows) := ⟨rfl, rfl, rfl, by decide +kernel, rfl, by decide +kernel, by decide +kernel⟩
theorem ok_Fits_shows (Z : Ctx K mg) : FnAll P w K mg base (TT K) 19 (He.ma K (He.ga K "Fits") "shows") ["self", "kind", "room", "moves"] 4 F_Fits_shows :=
  fnAll (k := 18) Z.f_Fits_shows sc_Fits_shows (fun _ _ _ _ _ _ us hl => match us, hl with | [_, _, _, _], _ => rfl) fun cdv A outer s H E hr => by
    have hN := sc_Fits_shows.nd
    exact (dss_one (ds_ret (de_bool (bok_of (room_in hr) (rows_bool Z)) (do_v (de_call px_cx ((ok_judge_moves Z).fok hr) Z.g_judge_moves (da_cons (do_pl (pv 1)) (da_cons (do_pl (pv 2)) (da_cons (do_pl (pv 3)) da_nil))))) Z.n_bool)))
def D_Looksdd_initdd : DSn :=
    (dSeq (dFor (iSeq (dTup (aCons (oV (dTup (aCons (oV (dC (.str "every"))) (aCons (oV (dName 1)) (aCons (oV (dC (.int 1))) (aCons (oV (dC (.int 6))) aNil)))))) (aCons (oV (dTup (aCons (oV (dC (.str "many"))) (aCons (oV (dName 2)) (aCons (oV (dC (.int 1))) (aCons (oV (dC (.int 4))) aNil)))))) (aCons (oV (dTup (aCons (oV (dC (.str "above"))) (aCons (oV (dName 3)) (aCons (oV (dC (.int 0))) (aCons (oV (dC (.int 8))) aNil)))))) aNil))))) (gTp (gsCons (gNm 4) (gsCons (gNm 5) (gsCons (gNm 6) (gsCons (gNm 7) gsNil)))))
    (dIte (tNotD (dTru M_bool (oV (dCall F_is_number (aCons (oPl 5) (aCons (oPl 6) (aCons (oPl 7) aNil))))))) dNever (dEnd .nx)))
    (dSeq (dSetFld 0 fp_every (dName 1))
    (dSeq (dSetFld 0 fp_many (dName 2))
    (dSetFld 0 fp_above (dName 3)))))
def F_Looksdd_initdd : CF := cfOf 8 4 D_Looksdd_initdd
theorem sc_Looksdd_initdd : FnScope ["self", "every", "many", "above", "part", "thing", "low", "high"] ["self", "every", "many", "above"] (defScope s_Looksdd_initdd) := ⟨rfl, rfl, rfl, by decide +kernel, rfl, by decide +kernel, by decide +kernel⟩
theorem ok_Looksdd_initdd (Z : Ctx K mg) : FnAll P w K mg base (TT K) 7 (He.ma K (He.ga K "Looks") "__init__") ["self", "every", "many", "above"] 4 F_Looksdd_initdd :=
  fnAll (k := 6) Z.f_Looksdd_initdd sc_Looksdd_initdd (fun _ _ _ _ _ _ us hl => match us, hl with | [_, _, _, _], _ => rfl) fun cdv A outer s H E hr => by
    have hN := sc_Looksdd_initdd.nd
    exact (dss_cons (ds_for hp_cx rfl (di_seq (de_tup (da_cons (do_v (de_tup (da_cons (do_v de_str) (da_cons (do_v (de_name (pv 1))) (da_cons (do_v de_int) (da_cons (do_v de_int) da_nil)))))) (da_cons (do_v (de_tup (da_cons (do_v de_str) (da_cons (do_v (de_name (pv 2))) (da_cons (do_v de_int) (da_cons (do_v de_int) da_nil)))))) (da_cons (do_v (de_tup (da_cons (do_v de_str) (da_cons (do_v (de_name (pv 3))) (da_cons (do_v de_int) (da_cons (do_v de_int) da_nil)))))) da_nil))))) (dg_tup rfl (dgs_cons (dg_name hN) (dgs_cons (dg_name hN) (dgs_cons (dg_name hN) (dgs_cons (dg_name hN) dgs_nil)))) (takes_cons (takes_cons (takes_cons (takes_cons takes_nil)))))
    (dss_one (ds_if (dt_not (dt_tru (bok_of hr (rows_bool Z)) (do_v (de_call px_cx ((ok_is_number Z).fok hr) Z.g_is_number (da_cons (do_pl (pv 5)) (da_cons (do_pl (pv 6)) (da_cons (do_pl (pv 7)) da_nil))))))) (dss_one ds_never) dss_nil)))
    (dss_cons (ds_setFld Z.a_every (pv 0) (de_name (pv 1)))
    (dss_cons (ds_setFld Z.a_many (pv 0) (de_name (pv 2)))
    (dss_one (ds_setFld Z.a_above (pv 0) (de_name (pv 3)))))))
def D_Looks_span : DSn :=
    (dRet (d2 mulA (oV (d2 (i0D fun i j => .int (i - j)) (oV (dFld fp_many (oPl 0))) (oV (dC (.int 1))))) (oV (dFld fp_every (oPl 0)))))
def F_Looks_span : CF := cfOf 1 1 D_Looks_span
theorem sc_Looks_span : FnScope ["self"] ["self"] (defScope s_Looks_span) := ⟨rfl, rfl, rfl, by decide +kernel, rfl, by decide +kernel, by decide +kernel⟩
theorem ok_Looks_span (Z : Ctx K mg) : FnAll P w K mg base (TT K) 1 (He.ma K (He.ga K "Looks") "span") ["self"] 1 F_Looks_span :=
  fnAll (k := 0) Z.f_Looks_span sc_Looks_span (fun _ _ _ _ _ _ us hl => match us, hl with | [_], _ => rfl) fun cdv A outer s H E hr => by
    have hN := sc_Looks_span.nd
    exact (dss_one (ds_ret (de_mul (do_v (de_sub (do_v (de_fld Z.a_many (do_pl (pv 0)))) (do_v de_int))) (do_v (de_fld Z.a_every (do_pl (pv 0)))))))
def D_kept_row : DSn :=
    (dRet (dIf (dTru M_bool (oV (dCall F_is_row (aCons (oPl 0) aNil)))) (dL tupleD (aCons (oPl 0) aNil)) (dName 0)))
def F_kept_row : CF := cfOf 1 1 D_kept_row
theorem sc_kept_row : FnScope ["thing"] ["thing"] (defScope s_kept_row) := ⟨rfl, rfl, rfl, by decide +kernel, rfl, by decide +kernel, by decide +kernel⟩
theorem ok_kept_row (Z : Ctx K mg) : FnAll P w K mg base (TT K) 4 (He.ga K "kept_row") ["thing"] 1 F_kept_row :=
  fnAll (k := 3) Z.f_kept_row sc_kept_row (fun _ _ _ _ _ _ us hl => match us, hl with | [_], _ => rfl) fun cdv A outer s H E hr => by
    have hN := sc_kept_row.nd
    exact (dss_one (ds_ret (de_if (dt_tru (bok_of hr (rows_bool Z)) (do_v (de_call px_cx ((ok_is_row Z).fok hr) Z.g_is_row (da_cons (do_pl (pv 0)) da_nil)))) (de_callTy snd_tuple call_tupleP (da_cons (do_pl (pv 0)) da_nil) Z.n_tuple boot_tuple) (de_name (pv 0)))))
def D_Lyingdd_initdd : DSn :=
    (dSetFld 0 fp_lengths (dCall F_kept_row (aCons (oPl 1) aNil)))
def F_Lyingdd_initdd : CF := cfOf 2 2 D_Lyingdd_initdd
theorem sc_Lyingdd_initdd : FnScope ["self", "lengths"] ["self", "lengths"] (defScope s_Lyingdd_initdd) := ⟨rfl, rfl, rfl, by decide +kernel, rfl, by decide +kernel, by decide +kernel⟩
theorem ok_Lyingdd_initdd (Z : Ctx K mg) : FnAll P w K mg base (TT K) 7 (He.ma K (He.ga K "Lying") "__init__") ["self", "lengths"] 2 F_Lyingdd_initdd :=
  fnAll (k := 6) Z.f_Lyingdd_initdd sc_Lyingdd_initdd (fun _ _ _ _ _ _ us hl => match us, hl with | [_, _], _ => rfl) fun cdv A outer s H E hr => by
    have hN := sc_Lyingdd_initdd.nd
    exact (dss_one (ds_setFld Z.a_lengths (pv 0) (de_call px_cx ((ok_kept_row Z).fok hr) Z.g_kept_row (da_cons (do_pl (pv 1)) da_nil))))
def D_check_looks : DSn :=
    (dIte (tNotD (dBl (dIsC iz_Looks (oPl 0)))) dNever (dEnd .nx))
def F_check_looks : CF := cfOf 1 1 D_check_looks
theorem sc_check_looks : FnScope ["looks"] ["looks"] (defScope s_check_looks) := ⟨rfl, rfl, rfl, by decide +kernel, rfl, by decide +kernel, by decide +kernel⟩
theorem ok_check_looks (Z : Ctx K mg) : FnAll P w K mg base (TT K) 1 (He.ga K "check_looks") ["looks"] 1 F_check_looks :=
  fnAll (k := 0) Z.f_check_looks sc_check_looks (fun _ _ _ _ _ _ us hl => match us, hl with | [_], _ => rfl) fun cdv A outer s H E hr => by
    have hN := sc_check_looks.nd
    exact (dss_one (ds_if (dt_not (dt_val (de_isc (c' := 3) Z.is_Looks (do_pl (pv 0)) Z.n_isinstance Z.g_Looks))) (dss_one ds_never) dss_nil))
def D_check_step : DSn :=
    (dIte (tNotD (dTru M_bool (oV (dCall F_is_number (aCons (oPl 0) (aCons (oV (dC (.int 0))) (aCons (oV (dC (.int 3))) aNil))))))) dNever (dEnd .nx))
def F_check_step : CF := cfOf 1 1 D_check_step
theorem sc_check_step : FnScope ["step"] ["step"] (defScope s_check_step) := ⟨rfl, rfl, rfl, by decide +kernel, rfl, by decide +kernel, by decide +kernel⟩
theorem ok_check_step (Z : Ctx K mg) : FnAll P w K mg base (TT K) 7 (He.ga K "check_step") ["step"] 1 F_check_step :=
  fnAll (k := 6) Z.f_check_step sc_check_step (fun _ _ _ _ _ _ us hl => match us, hl with | [_], _ => rfl) fun cdv A outer s H E hr => by
    have hN := sc_check_step.nd
    exact (dss_one (ds_if (dt_not (dt_tru (bok_of hr (rows_bool Z)) (do_v (de_call px_cx ((ok_is_number Z).fok hr) Z.g_is_number (da_cons (do_pl (pv 0)) (da_cons (do_v de_int) (da_cons (do_v de_int) da_nil))))))) (dss_one ds_never) dss_nil))
def D_check_claim : DSn :=
    (dSeq (dDrop (oV (dCall F_check_looks (aCons (oPl 0) aNil))))
    (dSeq (dDrop (oV (dCall F_check_step (aCons (oPl 1) aNil))))
    (dIte (tNotD (dTru M_bool (oV (dCall F_is_number (aCons (oPl 2) (aCons (oV (dC (.int 0))) (aCons (oV (dC (.int 9))) aNil))))))) dNever (dEnd .nx))))
def F_check_claim : CF := cfOf 3 3 D_check_claim
theorem sc_check_claim : FnScope ["looks", "step", "floor"] ["looks", "step", "floor"] (defScope s_check_claim) := ⟨rfl, rfl, rfl, by decide +kernel, rfl, by decide +kernel, by decide +kernel⟩
theorem ok_check_claim (Z : Ctx K mg) : FnAll P w K mg base (TT K) 10 (He.ga K "check_claim") ["looks", "step", "floor"] 3 F_check_claim :=
  fnAll (k := 9) Z.f_check_claim sc_check_claim (fun _ _ _ _ _ _ us hl => match us, hl with | [_, _, _], _ => rfl) fun cdv A outer s H E hr => by
    have hN := sc_check_claim.nd
    exact (dss_cons (ds_expr (do_v (de_call px_cx ((ok_check_looks Z).fok hr) Z.g_check_looks (da_cons (do_pl (pv 0)) da_nil))))
    (dss_cons (ds_expr (do_v (de_call px_cx ((ok_check_step Z).fok hr) Z.g_check_step (da_cons (do_pl (pv 1)) da_nil))))
    (dss_one (ds_if (dt_not (dt_tru (bok_of hr (rows_bool Z)) (do_v (de_call px_cx ((ok_is_number Z).fok hr) Z.g_is_number (da_cons (do_pl (pv 2)) (da_cons (do_v de_int) (da_cons (do_v de_int) da_nil))))))) (dss_one ds_never) dss_nil))))
def D_is_lengths : DSn :=
    (dSeq (dDrop (oV (dCall F_check_step (aCons (oPl 1) aNil))))
    (dSeq (dIte (tOrD (tNotD (dTru M_bool (oV (dCall F_is_row (aCons (oPl 0) aNil))))) (tNotD (dBl (d3 leD leD (oV (dC (.int 1))) (oV (dL lenD (aCons (oPl 0) aNil))) (oV (dC vv_MOST_TICKS)))))) (dRet (dC (.bl false))) (dEnd .nx))
    (dSeq (dIte (tNotD (dBl (dL allD (aCons (oLc (iSeq (dName 0)) [2] (gNm 2) tTrue (dCall F_is_number (aCons (oPl 2) (aCons (oV (dC (.int 0))) (aCons (oV (dC (.int 9))) aNil))))) aNil)))) (dRet (dC (.bl false))) (dEnd .nx))
    (dRet (dL allD (aCons (oLc (iVals zip2 (aCons (oV (dName 0)) (aCons (oV (dSl (oV (dL listD (aCons (oPl 0) aNil))) (pSome (dC (.int 1))) pNo)) aNil))) [2, 3] (gTp (gsCons (gNm 2) (gsCons (gNm 3) gsNil))) tTrue (d2 leD (oV (dL absD (aCons (oV (d2 (i0D fun i j => .int (i - j)) (oPl 3) (oPl 2))) aNil))) (oPl 1))) aNil))))))
def F_is_lengths : CF := cfOf 4 2 D_is_lengths
theorem sc_is_lengths : FnScope ["lengths", "step", "length", "late"] ["lengths", "step"] (defScope s_is_lengths) := ⟨rfl, rfl, rfl, by decide +kernel, rfl, by decide +kernel, by decide +kernel⟩
theorem ok_is_lengths (Z : Ctx K mg) : FnAll P w K mg base (TT K) 10 (He.ga K "is_lengths") ["lengths", "step"] 2 F_is_lengths :=
  fnAll (k := 9) Z.f_is_lengths sc_is_lengths (fun _ _ _ _ _ _ us hl => match us, hl with | [_, _], _ => rfl) fun cdv A outer s H E hr => by
    have hN := sc_is_lengths.nd
    exact (dss_cons (ds_expr (do_v (de_call px_cx ((ok_check_step Z).fok hr) Z.g_check_step (da_cons (do_pl (pv 1)) da_nil))))
    (dss_cons (ds_if (dt_w (dw_or (dt_not (dt_tru (bok_of hr (rows_bool Z)) (do_v (de_call px_cx ((ok_is_row Z).fok hr) Z.g_is_row (da_cons (do_pl (pv 0)) da_nil))))) (dw_or1 (dt_not (dt_chain s_le op_le s_le op_le (do_v de_int) (do_v (de_callB snd_len call_len2 (da_cons (do_pl (pv 0)) da_nil) Z.n_len boot_len)) (do_v Z.c_MOST_TICKS)))))) (dss_one (ds_ret de_bl)) dss_nil)
    (dss_cons (ds_if (dt_not (dt_val (de_callB snd_all (cr_all rfl) (da_cons (do_lc (own := [("length", 2)]) rfl hN (by kernel_rfl) (by decide) (di_seq (de_name (pv 0))) (fun _ _ _ _ _ => (dg_name hN)) (fun _ _ _ _ _ => dts_nil) (fun _ _ _ _ _ => (de_call psx0 ((ok_is_number Z).fok hr) Z.g_is_number (da_cons (do_pl (pv 2)) (da_cons (do_v de_int) (da_cons (do_v de_int) da_nil)))))) da_nil) Z.n_all boot_all))) (dss_one (ds_ret de_bl)) dss_nil)
    (dss_one (ds_ret (de_callB snd_all (cr_all rfl) (da_cons (do_lc (own := [("length", 2), ("late", 3)]) rfl hN (by kernel_rfl) (by decide) (di_zip (da_cons (do_v (de_name (pv 0))) (da_cons (do_v (de_slice (do_v (de_callTy snd_list call_list_of (da_cons (do_pl (pv 0)) da_nil) Z.n_list boot_list)) (dp_some de_int) dp_none)) da_nil)) Z.n_zip) (fun _ _ _ _ _ => (dg_tup rfl (dgs_cons (dg_name hN) (dgs_cons (dg_name hN) dgs_nil)) (takes_cons (takes_cons takes_nil)))) (fun _ _ _ _ _ => dts_nil) (fun _ _ _ _ _ => (de_cmp s_le op_le (do_v (de_callB snd_abs call_abs (da_cons (do_v (de_sub (do_pl (pv 3)) (do_pl (pv 2)))) da_nil) Z.n_abs boot_abs)) (do_pl (pv 1))))) da_nil) Z.n_all boot_all))))))
def D_check_lengths : DSn :=
    (dSeq (dIte (tOrD (tNotD (dTru M_bool (oV (dCall F_is_row (aCons (oPl 0) aNil))))) (tNotD (dBl (d3 leD leD (oV (dC (.int 1))) (oV (dL lenD (aCons (oPl 0) aNil))) (oV (dC vv_MOST_TICKS)))))) dNever (dEnd .nx))
    (dFor (iVals enum1 (aCons (oV (dName 0)) aNil)) (gTp (gsCons (gNm 1) (gsCons (gNm 2) gsNil)))
    (dIte (tNotD (dTru M_bool (oV (dCall F_is_number (aCons (oPl 2) (aCons (oV (dC (.int 0))) (aCons (oV (dC (.int 9))) aNil))))))) dNever (dEnd .nx))))
def F_check_lengths : CF := cfOf 3 1 D_check_lengths
theorem sc_check_lengths : FnScope ["lengths", "place", "length"] ["lengths"] (defScope s_check_lengths) := ⟨rfl, rfl, rfl, by decide +kernel, rfl, by decide +kernel, by decide +kernel⟩
theorem ok_check_lengths (Z : Ctx K mg) : FnAll P w K mg base (TT K) 7 (He.ga K "check_lengths") ["lengths"] 1 F_check_lengths :=
  fnAll (k := 6) Z.f_check_lengths sc_check_lengths (fun _ _ _ _ _ _ us hl => match us, hl with | [_], _ => rfl) fun cdv A outer s H E hr => by
    have hN := sc_check_lengths.nd
    exact (dss_cons (ds_if (dt_w (dw_or (dt_not (dt_tru (bok_of hr (rows_bool Z)) (do_v (de_call px_cx ((ok_is_row Z).fok hr) Z.g_is_row (da_cons (do_pl (pv 0)) da_nil))))) (dw_or1 (dt_not (dt_chain s_le op_le s_le op_le (do_v de_int) (do_v (de_callB snd_len call_len2 (da_cons (do_pl (pv 0)) da_nil) Z.n_len boot_len)) (do_v Z.c_MOST_TICKS)))))) (dss_one ds_never) dss_nil)
    (dss_one (ds_for hp_cx rfl (di_enum (da_cons (do_v (de_name (pv 0))) da_nil) Z.n_enumerate) (dg_tup rfl (dgs_cons (dg_name hN) (dgs_cons (dg_name hN) dgs_nil)) (takes_cons (takes_cons takes_nil)))
    (dss_one (ds_if (dt_not (dt_tru (bok_of hr (rows_bool Z)) (do_v (de_call px_cx ((ok_is_number Z).fok hr) Z.g_is_number (da_cons (do_pl (pv 2)) (da_cons (do_v de_int) (da_cons (do_v de_int) da_nil))))))) (dss_one ds_never) dss_nil)))))
def D_rings_of : DSn :=
    (dSeq (dDrop (oV (dCall F_check_looks (aCons (oPl 0) aNil))))
    (dSeq (dDrop (oV (dCall F_check_lengths (aCons (oPl 1) aNil))))
    (dSeq (dPar [2, 3] (aCons (oLst aNil) (aCons (oV (dC (.int 0))) aNil)))
    (dSeq (dFor (iRes rng3 (aCons (oV (dC (.int 0))) (aCons (oV (dL lenD (aCons (oPl 1) aNil))) (aCons (oV (dFld fp_every (oPl 0))) aNil)))) (gNm 4)
    (dSeq (dSet 3 (oV (dIf (dBl (d2 gtD (oV (d2 ixD (oPl 1) (oPl 4))) (oV (dFld fp_above (oPl 0))))) (d2 addD (oPl 3) (oV (dC (.int 1)))) (dC (.int 0)))))
    (dIte (dBl (d2 geD (oPl 3) (oV (dFld fp_many (oPl 0))))) (dApp 2 (dName 4)) (dEnd .nx))))
    (dRet (dL tupleD (aCons (oPl 2) aNil)))))))
def F_rings_of : CF := cfOf 5 2 D_rings_of
theorem sc_rings_of : FnScope ["looks", "lengths", "found", "row", "tick"] ["looks", "lengths"] (defScope s_rings_of) := ⟨rfl, rfl, rfl, by decide +kernel, rfl, by decide +kernel, by decide +kernel⟩
theorem ok_rings_of (Z : Ctx K mg) : FnAll P w K mg base (TT K) 10 (He.ga K "rings_of") ["looks", "lengths"] 2 F_rings_of :=
  fnAll (k := 9) Z.f_rings_of sc_rings_of (fun _ _ _ _ _ _ us hl => match us, hl with | [_, _], _ => rfl) fun cdv A outer s H E hr => by
    have hN := sc_rings_of.nd
    exact (dss_cons (ds_expr (do_v (de_call px_cx ((ok_check_looks Z).fok hr) Z.g_check_looks (da_cons (do_pl (pv 0)) da_nil))))
    (dss_cons (ds_expr (do_v (de_call px_cx ((ok_check_lengths Z).fok hr) Z.g_check_lengths (da_cons (do_pl (pv 1)) da_nil))))
    (dss_cons (ds_par2 (i := 2) (j := 3) rfl hN (da_cons (do_lst da_nil) (da_cons (do_v de_int) da_nil)))
    (dss_cons (ds_for hp_cx rfl (di_range3 (da_cons (do_v de_int) (da_cons (do_v (de_callB snd_len call_len2 (da_cons (do_pl (pv 1)) da_nil) Z.n_len boot_len)) (da_cons (do_v (de_fld Z.a_every (do_pl (pv 0)))) da_nil))) Z.n_range) (dg_name hN)
    (dss_cons (ds_set (i := 3) hN (do_v (de_if (dt_cmp s_gt op_gt (do_v (de_ix (do_pl (pv 1)) (do_pl (pv 4)))) (do_v (de_fld Z.a_above (do_pl (pv 0))))) (de_add (do_pl (pv 3)) (do_v de_int)) de_int)))
    (dss_one (ds_if (dt_cmp s_ge op_ge (do_pl (pv 3)) (do_v (de_fld Z.a_many (do_pl (pv 0))))) (dss_one (ds_app (pv 2) (de_name (pv 4)))) dss_nil))))
    (dss_one (ds_ret (de_callTy snd_tuple call_tupleP (da_cons (do_pl (pv 2)) da_nil) Z.n_tuple boot_tuple)))))))
def M_span : Nat → Option CF
  | 3 => some F_Looks_span
  | _ => none
theorem rows_span {X : Cx} {k' : Nat} (Z : Ctx X.K X.mg) (hk : 1 ≤ k' := by decide) : ∀ c F, M_span c = some F → MRow X (TT X.K) "span" 1 k' c F := fun c F e => by
  unfold M_span at e
  split at e
  · cases e; exact (ok_Looks_span Z).mrow (c := 3) Z.k_Looks Z.m_Looks_span (by show _ ∉ layC 3; decide +kernel) (Nat.le_trans (by decide) hk)
  · cases e
theorem some_span : ∃ c F, M_span c = some F := ⟨3, _, rfl⟩
def D_is_true_ring : DSn :=
    (dSeq (dIte (tOrD (dBl (d2 (inD true) (oPl 2) (oV (dCall F_rings_of (aCons (oPl 0) (aCons (oPl 1) aNil)))))) (dBl (dIsi "bool" (oPl 2)))) dNever (dEnd .nx))
    (dSeq (dIte (tNotD (dTru M_bool (oV (dCall F_is_number (aCons (oPl 3) (aCons (oV (dC (.int 0))) (aCons (oV (dC (.int 9))) aNil))))))) dNever (dEnd .nx))
    (dRet (dL allD (aCons (oLc (iSeq (dSl (oV (dL listD (aCons (oPl 1) aNil))) (pSome (d2 (i0D fun i j => .int (i - j)) (oPl 2) (oV (dMeth M_span (oPl 0) aNil)))) (pSome (d2 addD (oPl 2) (oV (dC (.int 1))))))) [4] (gNm 4) tTrue (d2 gtD (oPl 4) (oPl 3))) aNil)))))
def F_is_true_ring : CF := cfOf 5 4 D_is_true_ring
theorem sc_is_true_ring : FnScope ["looks", "lengths", "tick", "floor", "length"] ["looks", "lengths", "tick", "floor"] (defScope s_is_true_ring) := ⟨rfl, rfl, rfl, by decide +kernel, rfl, by decide +kernel, by decide +kernel⟩
theorem ok_is_true_ring (Z : Ctx K mg) : FnAll P w K mg base (TT K) 13 (He.ga K "is_true_ring") ["looks", "lengths", "tick", "floor"] 4 F_is_true_ring :=
  fnAll (k := 12) Z.f_is_true_ring sc_is_true_ring (fun _ _ _ _ _ _ us hl => match us, hl with | [_, _, _, _], _ => rfl) fun cdv A outer s H E hr => by
    have hN := sc_is_true_ring.nd
    exact (dss_cons (ds_if (dt_w (dw_or (dt_cmp s_in (op_notInA (u65 hr)) (do_pl (pv 2)) (do_v (de_call px_cx ((ok_rings_of Z).fok hr) Z.g_rings_of (da_cons (do_pl (pv 0)) (da_cons (do_pl (pv 1)) da_nil))))) (dw_or1 (dt_val (de_isi kit_bool (do_pl (pv 2)) Z.n_isinstance Z.n_bool boot_bool))))) (dss_one ds_never) dss_nil)
    (dss_cons (ds_if (dt_not (dt_tru (bok_of hr (rows_bool Z)) (do_v (de_call px_cx ((ok_is_number Z).fok hr) Z.g_is_number (da_cons (do_pl (pv 3)) (da_cons (do_v de_int) (da_cons (do_v de_int) da_nil))))))) (dss_one ds_never) dss_nil)
    (dss_one (ds_ret (de_callB snd_all (cr_all rfl) (da_cons (do_lc (own := [("length", 4)]) rfl hN (by kernel_rfl) (by decide) (di_seq (de_slice (do_v (de_callTy snd_list call_list_of (da_cons (do_pl (pv 1)) da_nil) Z.n_list boot_list)) (dp_some (de_sub (do_pl (pv 2)) (do_v (de_meth0 px_cx (mok_of hr (rows_span Z) some_span) (do_pl (pv 0)))))) (dp_some (de_add (do_pl (pv 2)) (do_v de_int))))) (fun _ _ _ _ _ => (dg_name hN)) (fun _ _ _ _ _ => dts_nil) (fun _ _ _ _ _ => (de_cmp s_gt op_gt (do_pl (pv 4)) (do_pl (pv 3))))) da_nil) Z.n_all boot_all)))))
def D_Lying_shows : DSn :=
    (dSeq (dDrop (oV (dCall F_check_claim (aCons (oPl 1) (aCons (oPl 2) (aCons (oPl 3) aNil))))))
    (dSeq (dIte (tOrD (tNotD (dTru M_bool (oV (dCall F_is_lengths (aCons (oV (dFld fp_lengths (oPl 0))) (aCons (oPl 2) aNil)))))) (dBl (d2 neD (oV (dL lenD (aCons (oV (dFld fp_lengths (oPl 0))) aNil))) (oV (d2 addD (oV (dMeth M_span (oPl 1) aNil)) (oV (dC (.int 1)))))))) (dRet (dC (.bl false))) (dEnd .nx))
    (dSeq (dIte (dBl (d2 (inD true) (oV (dMeth M_span (oPl 1) aNil)) (oV (dCall F_rings_of (aCons (oPl 1) (aCons (oV (dFld fp_lengths (oPl 0))) aNil)))))) (dRet (dC (.bl false))) (dEnd .nx))
    (dRet (dNot (dBl (dCall F_is_true_ring (aCons (oPl 1) (aCons (oV (dFld fp_lengths (oPl 0))) (aCons (oV (dMeth M_span (oPl 1) aNil)) (aCons (oPl 3) aNil)))))))))))
def F_Lying_shows : CF := cfOf 4 4 D_Lying_shows
theorem sc_Lying_shows : FnScope ["self", "looks", "step", "floor"] ["self", "looks", "step", "floor"] (defScope s_Lying_shows) := ⟨rfl, rfl, rfl, by decide +kernel, rfl, by decide +kernel, by decide +kernel⟩
theorem ok_Lying_shows (Z : Ctx K mg) : FnAll P w K mg base (TT K) 16 (He.ma K (He.ga K "Lying") "shows") ["self", "looks", "step", "floor"] 4 F_Lying_shows :=
  fnAll (k := 15) Z.f_Lying_shows sc_Lying_shows (fun _ _ _ _ _ _ us hl => match us, hl with | [_, _, _, _], _ => rfl) fun cdv A outer s H E hr => by
    have hN := sc_Lying_shows.nd
    exact (dss_cons (ds_expr (do_v (de_call px_cx ((ok_check_claim Z).fok hr) Z.g_check_claim (da_cons (do_pl (pv 1)) (da_cons (do_pl (pv 2)) (da_cons (do_pl (pv 3)) da_nil))))))
    (dss_cons (ds_if (dt_w (dw_or (dt_not (dt_tru (bok_of hr (rows_bool Z)) (do_v (de_call px_cx ((ok_is_lengths Z).fok hr) Z.g_is_lengths (da_cons (do_v (de_fld Z.a_lengths (do_pl (pv 0)))) (da_cons (do_pl (pv 2)) da_nil)))))) (dw_or1 (dt_cmp s_ne (op_neD hr.units) (do_v (de_callB snd_len call_len2 (da_cons (do_v (de_fld Z.a_lengths (do_pl (pv 0)))) da_nil) Z.n_len boot_len)) (do_v (de_add (do_v (de_meth0 px_cx (mok_of hr (rows_span Z) some_span) (do_pl (pv 1)))) (do_v de_int))))))) (dss_one (ds_ret de_bl)) dss_nil)
    (dss_cons (ds_if (dt_cmp s_in (op_notInA (u65 hr)) (do_v (de_meth0 px_cx (mok_of hr (rows_span Z) some_span) (do_pl (pv 1)))) (do_v (de_call px_cx ((ok_rings_of Z).fok hr) Z.g_rings_of (da_cons (do_pl (pv 1)) (da_cons (do_v (de_fld Z.a_lengths (do_pl (pv 0)))) da_nil))))) (dss_one (ds_ret de_bl)) dss_nil)
    (dss_one (ds_ret (de_not (de_call px_cx ((ok_is_true_ring Z).fok hr) Z.g_is_true_ring (da_cons (do_pl (pv 1)) (da_cons (do_v (de_fld Z.a_lengths (do_pl (pv 0)))) (da_cons (do_v (de_meth0 px_cx (mok_of hr (rows_span Z) some_span) (do_pl (pv 1)))) (da_cons (do_pl (pv 3)) da_nil)))))))))))
def D_Misseddd_initdd : DSn :=
    (dSetFld 0 fp_lengths (dCall F_kept_row (aCons (oPl 1) aNil)))
def F_Misseddd_initdd : CF := cfOf 2 2 D_Misseddd_initdd
theorem sc_Misseddd_initdd : FnScope ["self", "lengths"] ["self", "lengths"] (defScope s_Misseddd_initdd) := ⟨rfl, rfl, rfl, by decide +kernel, rfl, by decide +kernel, by decide +kernel⟩
theorem ok_Misseddd_initdd (Z : Ctx K mg) : FnAll P w K mg base (TT K) 7 (He.ma K (He.ga K "Missed") "__init__") ["self", "lengths"] 2 F_Misseddd_initdd :=
  fnAll (k := 6) Z.f_Misseddd_initdd sc_Misseddd_initdd (fun _ _ _ _ _ _ us hl => match us, hl with | [_, _], _ => rfl) fun cdv A outer s H E hr => by
    have hN := sc_Misseddd_initdd.nd
    exact (dss_one (ds_setFld Z.a_lengths (pv 0) (de_call px_cx ((ok_kept_row Z).fok hr) Z.g_kept_row (da_cons (do_pl (pv 1)) da_nil))))
def D_check_stretch : DSn :=
    (dSeq (dDrop (oV (dCall F_check_looks (aCons (oPl 0) aNil))))
    (dSeq (dDrop (oV (dCall F_check_step (aCons (oPl 1) aNil))))
    (dIte (tNotD (dTru M_bool (oV (dCall F_is_number (aCons (oPl 2) (aCons (oV (dC (.int 1))) (aCons (oV (dC vv_MOST_STRETCH)) aNil))))))) dNever (dEnd .nx))))
def F_check_stretch : CF := cfOf 3 3 D_check_stretch
theorem sc_check_stretch : FnScope ["looks", "step", "stretch"] ["looks", "step", "stretch"] (defScope s_check_stretch) := ⟨rfl, rfl, rfl, by decide +kernel, rfl, by decide +kernel, by decide +kernel⟩
theorem ok_check_stretch (Z : Ctx K mg) : FnAll P w K mg base (TT K) 10 (He.ga K "check_stretch") ["looks", "step", "stretch"] 3 F_check_stretch :=
  fnAll (k := 9) Z.f_check_stretch sc_check_stretch (fun _ _ _ _ _ _ us hl => match us, hl with | [_, _, _], _ => rfl) fun cdv A outer s H E hr => by
    have hN := sc_check_stretch.nd
    exact (dss_cons (ds_expr (do_v (de_call px_cx ((ok_check_looks Z).fok hr) Z.g_check_looks (da_cons (do_pl (pv 0)) da_nil))))
    (dss_cons (ds_expr (do_v (de_call px_cx ((ok_check_step Z).fok hr) Z.g_check_step (da_cons (do_pl (pv 1)) da_nil))))
    (dss_one (ds_if (dt_not (dt_tru (bok_of hr (rows_bool Z)) (do_v (de_call px_cx ((ok_is_number Z).fok hr) Z.g_is_number (da_cons (do_pl (pv 2)) (da_cons (do_v de_int) (da_cons (do_v Z.c_MOST_STRETCH) da_nil))))))) (dss_one ds_never) dss_nil))))
def D_Missed_shows : DSn :=
    (dSeq (dDrop (oV (dCall F_check_stretch (aCons (oPl 1) (aCons (oPl 2) (aCons (oPl 3) aNil))))))
    (dSeq (dIte (tOrD (tNotD (dTru M_bool (oV (dCall F_is_lengths (aCons (oV (dFld fp_lengths (oPl 0))) (aCons (oPl 2) aNil)))))) (dBl (d2 ltD (oV (dL lenD (aCons (oV (dFld fp_lengths (oPl 0))) aNil))) (oPl 3)))) (dRet (dC (.bl false))) (dEnd .nx))
    (dSeq (dSet 4 (oV (d2 (i0D fun i j => .int (i - j)) (oV (dL lenD (aCons (oV (dFld fp_lengths (oPl 0))) aNil))) (oPl 3))))
    (dSeq (dIte (tNotD (dBl (dL allD (aCons (oLc (iSeq (dSl (oV (dL listD (aCons (oV (dFld fp_lengths (oPl 0))) aNil))) (pSome (dName 4)) pNo)) [5] (gNm 5) tTrue (d2 gtD (oPl 5) (oV (dFld fp_above (oPl 1))))) aNil)))) (dRet (dC (.bl false))) (dEnd .nx))
    (dRet (dNot (dBl (dL anyD (aCons (oLc (iSeq (dCall F_rings_of (aCons (oPl 1) (aCons (oV (dFld fp_lengths (oPl 0))) aNil)))) [6] (gNm 6) tTrue (d2 geD (oPl 6) (oPl 4))) aNil)))))))))
def F_Missed_shows : CF := cfOf 7 4 D_Missed_shows
theorem sc_Missed_shows : FnScope ["self", "looks", "step", "stretch", "begin", "length", "tick"] ["self", "looks", "step", "stretch"] (defScope s_Missed_shows) := ⟨rfl, rfl, rfl, by decide +kernel, rfl, by decide +kernel, by decide +kernel⟩
theorem ok_Missed_shows (Z : Ctx K mg) : FnAll P w K mg base (TT K) 13 (He.ma K (He.ga K "Missed") "shows") ["self", "looks", "step", "stretch"] 4 F_Missed_shows :=
  fnAll (k := 12) Z.f_Missed_shows sc_Missed_shows (fun _ _ _ _ _ _ us hl => match us, hl with | [_, _, _, _], _ => rfl) fun cdv A outer s H E hr => by
    have hN := sc_Missed_shows.nd
    exact (dss_cons (ds_expr (do_v (de_call px_cx ((ok_check_stretch Z).fok hr) Z.g_check_stretch (da_cons (do_pl (pv 1)) (da_cons (do_pl (pv 2)) (da_cons (do_pl (pv 3)) da_nil))))))
    (dss_cons (ds_if (dt_w (dw_or (dt_not (dt_tru (bok_of hr (rows_bool Z)) (do_v (de_call px_cx ((ok_is_lengths Z).fok hr) Z.g_is_lengths (da_cons (do_v (de_fld Z.a_lengths (do_pl (pv 0)))) (da_cons (do_pl (pv 2)) da_nil)))))) (dw_or1 (dt_cmp s_lt op_lt (do_v (de_callB snd_len call_len2 (da_cons (do_v (de_fld Z.a_lengths (do_pl (pv 0)))) da_nil) Z.n_len boot_len)) (do_pl (pv 3)))))) (dss_one (ds_ret de_bl)) dss_nil)
    (dss_cons (ds_set (i := 4) hN (do_v (de_sub (do_v (de_callB snd_len call_len2 (da_cons (do_v (de_fld Z.a_lengths (do_pl (pv 0)))) da_nil) Z.n_len boot_len)) (do_pl (pv 3)))))
    (dss_cons (ds_if (dt_not (dt_val (de_callB snd_all (cr_all rfl) (da_cons (do_lc (own := [("length", 5)]) rfl hN (by kernel_rfl) (by decide) (di_seq (de_slice (do_v (de_callTy snd_list call_list_of (da_cons (do_v (de_fld Z.a_lengths (do_pl (pv 0)))) da_nil) Z.n_list boot_list)) (dp_some (de_name (pv 4))) dp_none)) (fun _ _ _ _ _ => (dg_name hN)) (fun _ _ _ _ _ => dts_nil) (fun _ _ _ _ _ => (de_cmp s_gt op_gt (do_pl (pv 5)) (do_v (de_fld Z.a_above (do_pl (pv 1))))))) da_nil) Z.n_all boot_all))) (dss_one (ds_ret de_bl)) dss_nil)
    (dss_one (ds_ret (de_not (de_callB snd_any (cr_any rfl) (da_cons (do_lc (own := [("tick", 6)]) rfl hN (by kernel_rfl) (by decide) (di_seq (de_call px_cx ((ok_rings_of Z).fok hr) Z.g_rings_of (da_cons (do_pl (pv 1)) (da_cons (do_v (de_fld Z.a_lengths (do_pl (pv 0)))) da_nil)))) (fun _ _ _ _ _ => (dg_name hN)) (fun _ _ _ _ _ => dts_nil) (fun _ _ _ _ _ => (de_cmp s_ge op_ge (do_pl (pv 6)) (do_pl (pv 4))))) da_nil) Z.n_any boot_any))))))))
def D_latest_ring : DSn :=
    (dSeq (dDrop (oV (dCall F_check_looks (aCons (oPl 0) aNil))))
    (dSeq (dDrop (oV (dCall F_check_step (aCons (oPl 1) aNil))))
    (dRet (dIf (dBl (d2 gtD (oPl 1) (oV (dC (.int 0))))) (d2 mulA (oV (dFld fp_every (oPl 0))) (oV (dFld fp_many (oPl 0)))) (dL max2D (aCons (oV (d2 addD (oV (dMeth M_span (oPl 0) aNil)) (oV (dC (.int 1))))) (aCons (oV (dFld fp_every (oPl 0))) aNil)))))))
def F_latest_ring : CF := cfOf 2 2 D_latest_ring
theorem sc_latest_ring : FnScope ["looks", "step"] ["looks", "step"] (defScope s_latest_ring) := ⟨rfl, rfl, rfl, by decide +kernel, rfl, by decide +kernel, by decide +kernel⟩
theorem ok_latest_ring (Z : Ctx K mg) : FnAll P w K mg base (TT K) 10 (He.ga K "latest_ring") ["looks", "step"] 2 F_latest_ring :=
  fnAll (k := 9) Z.f_latest_ring sc_latest_ring (fun _ _ _ _ _ _ us hl => match us, hl with | [_, _], _ => rfl) fun cdv A outer s H E hr => by
    have hN := sc_latest_ring.nd
    exact (dss_cons (ds_expr (do_v (de_call px_cx ((ok_check_looks Z).fok hr) Z.g_check_looks (da_cons (do_pl (pv 0)) da_nil))))
    (dss_cons (ds_expr (do_v (de_call px_cx ((ok_check_step Z).fok hr) Z.g_check_step (da_cons (do_pl (pv 1)) da_nil))))
    (dss_one (ds_ret (de_if (dt_cmp s_gt op_gt (do_pl (pv 1)) (do_v de_int)) (de_mul (do_v (de_fld Z.a_every (do_pl (pv 0)))) (do_v (de_fld Z.a_many (do_pl (pv 0))))) (de_callB snd_max2 (call_max2 rfl) (da_cons (do_v (de_add (do_v (de_meth0 px_cx (mok_of hr (rows_span Z) some_span) (do_pl (pv 0)))) (do_v de_int))) (da_cons (do_v (de_fld Z.a_every (do_pl (pv 0)))) da_nil)) Z.n_max boot_max))))))
def D_judge_misses : DSn :=
    (dSeq (dDrop (oV (dCall F_check_stretch (aCons (oPl 0) (aCons (oPl 1) (aCons (oPl 2) aNil))))))
    (dSeq (dIte (dBl (d2 geD (oPl 2) (oV (dCall F_latest_ring (aCons (oPl 0) (aCons (oPl 1) aNil)))))) (dRet (dFz (oMake0 6))) (dEnd .nx))
    (dSeq (dIte (dBl (d2 eqD (oPl 1) (oV (dC (.int 0))))) (dSeq (dSet 3 (oV (dIf (dBl (d2 eqD (oV (dFld fp_many (oPl 0))) (oV (dC (.int 1))))) (dFld fp_every (oPl 0)) (dName 2))))
    (dRet (dFz (oMake 7 F_Misseddd_initdd (aCons (oV (d2 mulA (oV (dTup (aCons (oV (d2 addD (oV (dFld fp_above (oPl 0))) (oV (dC (.int 1))))) aNil))) (oPl 3))) aNil))))) (dEnd .nx))
    (dRet (dFz (oMake 7 F_Misseddd_initdd (aCons (oV (dTup (aCons (oV (dFld fp_above (oPl 0))) (aStar (oLc (iRes rng1 (aCons (oPl 2) aNil)) [4] (gNm 4) tTrue (d2 addD (oV (dFld fp_above (oPl 0))) (oV (dC (.int 1))))) aNil)))) aNil)))))))
def F_judge_misses : CF := cfOf 5 3 D_judge_misses
theorem sc_judge_misses : FnScope ["looks", "step", "stretch", "many", "tick"] ["looks", "step", "stretch"] (defScope s_judge_misses) := ⟨rfl, rfl, rfl, by decide +kernel, rfl, by decide +kernel, by decide +kernel⟩
theorem ok_judge_misses (Z : Ctx K mg) : FnAll P w K mg base (TT K) 13 (He.ga K "judge_misses") ["looks", "step", "stretch"] 3 F_judge_misses :=
  fnAll (k := 12) Z.f_judge_misses sc_judge_misses (fun _ _ _ _ _ _ us hl => match us, hl with | [_, _, _], _ => rfl) fun cdv A outer s H E hr => by
    have hN := sc_judge_misses.nd
    exact (dss_cons (ds_expr (do_v (de_call px_cx ((ok_check_stretch Z).fok hr) Z.g_check_stretch (da_cons (do_pl (pv 0)) (da_cons (do_pl (pv 1)) (da_cons (do_pl (pv 2)) da_nil))))))
    (dss_cons (ds_if (dt_cmp s_ge op_ge (do_pl (pv 2)) (do_v (de_call px_cx ((ok_latest_ring Z).fok hr) Z.g_latest_ring (da_cons (do_pl (pv 0)) (da_cons (do_pl (pv 1)) da_nil))))) (dss_one (ds_ret (de_o (do_make0 (c := 6) Z.mk_Rung Z.g_Rung)))) dss_nil)
    (dss_cons (ds_if (dt_cmp s_eq (op_eqD hr.units) (do_pl (pv 1)) (do_v de_int)) (dss_cons (ds_set (i := 3) hN (do_v (de_if (dt_cmp s_eq (op_eqD hr.units) (do_v (de_fld Z.a_many (do_pl (pv 0)))) (do_v de_int)) (de_fld Z.a_every (do_pl (pv 0))) (de_name (pv 2)))))
    (dss_one (ds_ret (de_o (do_make px_cx ((ok_Misseddd_initdd Z).kok Z.mk_Missed hr) Z.g_Missed (da_cons (do_v (de_mul (do_v (de_tup (da_cons (do_v (de_add (do_v (de_fld Z.a_above (do_pl (pv 0)))) (do_v de_int))) da_nil))) (do_pl (pv 3)))) da_nil)))))) dss_nil)
    (dss_one (ds_ret (de_o (do_make px_cx ((ok_Misseddd_initdd Z).kok Z.mk_Missed hr) Z.g_Missed (da_cons (do_v (de_tup (da_cons (do_v (de_fld Z.a_above (do_pl (pv 0)))) (da_star (do_lc (own := [("tick", 4)]) rfl hN (by kernel_rfl) (by decide) (di_range1 (da_cons (do_pl (pv 2)) da_nil) Z.n_range) (fun _ _ _ _ _ => (dg_name hN)) (fun _ _ _ _ _ => dts_nil) (fun _ _ _ _ _ => (de_add (do_v (de_fld Z.a_above (do_pl (pv 0)))) (do_v de_int)))) da_nil)))) da_nil))))))))
def D_Rung_shows : DSn :=
    (dRet (dBoolC M_bool (oV (dCall F_judge_misses (aCons (oPl 1) (aCons (oPl 2) (aCons (oPl 3) aNil)))))))
def F_Rung_shows : CF := cfOf 4 4 D_Rung_shows
theorem sc_Rung_shows : FnScope ["self", "looks", "step", "stretch"] ["self", "looks", "step", "stretch"] (defScope s_Rung_shows) := ⟨rfl, rfl, rfl, by decide +kernel, rfl, by decide +kernel, by decide +kernel⟩
theorem ok_Rung_shows (Z : Ctx K mg) : FnAll P w K mg base (TT K) 16 (He.ma K (He.ga K "Rung") "shows") ["self", "looks", "step", "stretch"] 4 F_Rung_shows :=
  fnAll (k := 15) Z.f_Rung_shows sc_Rung_shows (fun _ _ _ _ _ _ us hl => match us, hl with | [_, _, _, _], _ => rfl) fun cdv A outer s H E hr => by
    have hN := sc_Rung_shows.nd
    exact (dss_one (ds_ret (de_bool (bok_of (room_in hr) (rows_bool Z)) (do_v (de_call px_cx ((ok_judge_misses Z).fok hr) Z.g_judge_misses (da_cons (do_pl (pv 1)) (da_cons (do_pl (pv 2)) (da_cons (do_pl (pv 3)) da_nil))))) Z.n_bool)))
def D_Stuck_shows : DSn :=
    (dRet (d2 eqD (oV (dCall F_judge_moves (aCons (oPl 1) (aCons (oPl 2) (aCons (oPl 3) aNil))))) (oPl 0)))
def F_Stuck_shows : CF := cfOf 4 4 D_Stuck_shows
theorem sc_Stuck_shows : FnScope ["self", "kind", "room", "moves"] ["self", "kind", "room", "moves"] (defScope s_Stuck_shows) := ⟨rfl, rfl, rfl, by decide +kernel, rfl, by decide +kernel, by decide +kernel⟩
theorem ok_Stuck_shows (Z : Ctx K mg) : FnAll P w K mg base (TT K) 19 (He.ma K (He.ga K "Stuck") "shows") ["self", "kind", "room", "moves"] 4 F_Stuck_shows :=
  fnAll (k := 18) Z.f_Stuck_shows sc_Stuck_shows (fun _ _ _ _ _ _ us hl => match us, hl with | [_, _, _, _], _ => rfl) fun cdv A outer s H E hr => by
    have hN := sc_Stuck_shows.nd
    exact (dss_one (ds_ret (de_cmp s_eq (op_eqD hr.units) (do_v (de_call px_cx ((ok_judge_moves Z).fok hr) Z.g_judge_moves (da_cons (do_pl (pv 1)) (da_cons (do_pl (pv 2)) (da_cons (do_pl (pv 3)) da_nil))))) (do_pl (pv 0)))))
def D_least_between : DSn :=
    (dSeq (dDrop (oV (dCall F_check_looks (aCons (oPl 0) aNil))))
    (dSeq (dDrop (oV (dCall F_check_step (aCons (oPl 1) aNil))))
    (dSeq (dSet 2 (oV (dIf (dBl (d2 gtD (oV (dFld fp_many (oPl 0))) (oV (dC (.int 1))))) (d2 mulA (oPl 1) (oV (d2 fdivD (oV (dFld fp_every (oPl 0))) (oV (dC (.int 2)))))) (dC (.int 0)))))
    (dRet (dL max2D (aCons (oV (dC (.int 0))) (aCons (oV (d2 (i0D fun i j => .int (i - j)) (oV (d2 addD (oV (dFld fp_above (oPl 0))) (oV (dC (.int 1))))) (oPl 2))) aNil)))))))
def F_least_between : CF := cfOf 3 2 D_least_between
theorem sc_least_between : FnScope ["looks", "step", "down"] ["looks", "step"] (defScope s_least_between) := ⟨rfl, rfl, rfl, by decide +kernel, rfl, by decide +kernel, by decide +kernel⟩
theorem ok_least_between (Z : Ctx K mg) : FnAll P w K mg base (TT K) 10 (He.ga K "least_between") ["looks", "step"] 2 F_least_between :=
  fnAll (k := 9) Z.f_least_between sc_least_between (fun _ _ _ _ _ _ us hl => match us, hl with | [_, _], _ => rfl) fun cdv A outer s H E hr => by
    have hN := sc_least_between.nd
    exact (dss_cons (ds_expr (do_v (de_call px_cx ((ok_check_looks Z).fok hr) Z.g_check_looks (da_cons (do_pl (pv 0)) da_nil))))
    (dss_cons (ds_expr (do_v (de_call px_cx ((ok_check_step Z).fok hr) Z.g_check_step (da_cons (do_pl (pv 1)) da_nil))))
    (dss_cons (ds_set (i := 2) hN (do_v (de_if (dt_cmp s_gt op_gt (do_v (de_fld Z.a_many (do_pl (pv 0)))) (do_v de_int)) (de_mul (do_pl (pv 1)) (do_v (de_fdiv (do_v (de_fld Z.a_every (do_pl (pv 0)))) (do_v de_int)))) de_int)))
    (dss_one (ds_ret (de_callB snd_max2 (call_max2 rfl) (da_cons (do_v de_int) (da_cons (do_v (de_sub (do_v (de_add (do_v (de_fld Z.a_above (do_pl (pv 0)))) (do_v de_int))) (do_pl (pv 2)))) da_nil)) Z.n_max boot_max))))))
def D_judge_rings : DSn :=
    (dSeq (dDrop (oV (dCall F_check_claim (aCons (oPl 0) (aCons (oPl 1) (aCons (oPl 2) aNil))))))
    (dSeq (dIte (dBl (d2 ltD (oPl 2) (oV (dCall F_least_between (aCons (oPl 0) (aCons (oPl 1) aNil)))))) (dRet (dFz (oMake0 4))) (dEnd .nx))
    (dSeq (dPar [3, 4] (aCons (oV (d2 addD (oV (dFld fp_above (oPl 0))) (oV (dC (.int 1))))) (aCons (oV (d2 fdivD (oV (dFld fp_every (oPl 0))) (oV (dC (.int 2))))) aNil)))
    (dSeq (dSet 5 (oLst aNil))
    (dSeq (dFor (iRes rng1 (aCons (oV (d2 addD (oV (dMeth M_span (oPl 0) aNil)) (oV (dC (.int 1))))) aNil)) (gNm 6)
    (dSeq (dSet 7 (oV (dIf (dBl (d3 leD leD (oV (dC (.int 0))) (oPl 6) (oV (dFld fp_every (oPl 0))))) (dL min3D (aCons (oPl 6) (aCons (oV (d2 (i0D fun i j => .int (i - j)) (oV (dFld fp_every (oPl 0))) (oPl 6))) (aCons (oPl 4) aNil)))) (dC (.int 0)))))
    (dApp 5 (dL max2D (aCons (oV (dC (.int 0))) (aCons (oV (d2 (i0D fun i j => .int (i - j)) (oPl 3) (oV (d2 mulA (oPl 1) (oPl 7))))) aNil))))))
    (dRet (dFz (oMake 5 F_Lyingdd_initdd (aCons (oV (dL tupleD (aCons (oPl 5) aNil))) aNil)))))))))
def F_judge_rings : CF := cfOf 8 3 D_judge_rings
theorem sc_judge_rings : FnScope ["looks", "step", "floor", "top", "half", "found", "tick", "down"] ["looks", "step", "floor"] (defScope s_judge_rings) := ⟨rfl, rfl, rfl, by decide +kernel, rfl, by decide +kernel, by decide +kernel⟩
theorem ok_judge_rings (Z : Ctx K mg) : FnAll P w K mg base (TT K) 13 (He.ga K "judge_rings") ["looks", "step", "floor"] 3 F_judge_rings :=
  fnAll (k := 12) Z.f_judge_rings sc_judge_rings (fun _ _ _ _ _ _ us hl => match us, hl with | [_, _, _], _ => rfl) fun cdv A outer s H E hr => by
    have hN := sc_judge_rings.nd
    exact (dss_cons (ds_expr (do_v (de_call px_cx ((ok_check_claim Z).fok hr) Z.g_check_claim (da_cons (do_pl (pv 0)) (da_cons (do_pl (pv 1)) (da_cons (do_pl (pv 2)) da_nil))))))
    (dss_cons (ds_if (dt_cmp s_lt op_lt (do_pl (pv 2)) (do_v (de_call px_cx ((ok_least_between Z).fok hr) Z.g_least_between (da_cons (do_pl (pv 0)) (da_cons (do_pl (pv 1)) da_nil))))) (dss_one (ds_ret (de_o (do_make0 (c := 4) Z.mk_Sure Z.g_Sure)))) dss_nil)
    (dss_cons (ds_par2 (i := 3) (j := 4) rfl hN (da_cons (do_v (de_add (do_v (de_fld Z.a_above (do_pl (pv 0)))) (do_v de_int))) (da_cons (do_v (de_fdiv (do_v (de_fld Z.a_every (do_pl (pv 0)))) (do_v de_int))) da_nil)))
    (dss_cons (ds_set (i := 5) hN (do_lst da_nil))
    (dss_cons (ds_for hp_cx rfl (di_range1 (da_cons (do_v (de_add (do_v (de_meth0 px_cx (mok_of hr (rows_span Z) some_span) (do_pl (pv 0)))) (do_v de_int))) da_nil) Z.n_range) (dg_name hN)
    (dss_cons (ds_set (i := 7) hN (do_v (de_if (dt_chain s_le op_le s_le op_le (do_v de_int) (do_pl (pv 6)) (do_v (de_fld Z.a_every (do_pl (pv 0))))) (de_callB snd_min3 (call_min3Nu rfl) (da_cons (do_pl (pv 6)) (da_cons (do_v (de_sub (do_v (de_fld Z.a_every (do_pl (pv 0)))) (do_pl (pv 6)))) (da_cons (do_pl (pv 4)) da_nil))) Z.n_min boot_min) de_int)))
    (dss_one (ds_app (pv 5) (de_callB snd_max2 (call_max2 rfl) (da_cons (do_v de_int) (da_cons (do_v (de_sub (do_pl (pv 3)) (do_v (de_mul (do_pl (pv 1)) (do_pl (pv 7)))))) da_nil)) Z.n_max boot_max)))))
    (dss_one (ds_ret (de_o (do_make px_cx ((ok_Lyingdd_initdd Z).kok Z.mk_Lying hr) Z.g_Lying (da_cons (do_v (de_callTy snd_tuple call_tupleP (da_cons (do_pl (pv 5)) da_nil) Z.n_tuple boot_tuple)) da_nil))))))))))
def D_Sure_shows : DSn :=
    (dRet (dBoolC M_bool (oV (dCall F_judge_rings (aCons (oPl 1) (aCons (oPl 2) (aCons (oPl 3) aNil)))))))
def F_Sure_shows : CF := cfOf 4 4 D_Sure_shows
theorem sc_Sure_shows : FnScope ["self", "looks", "step", "floor"] ["self", "looks", "step", "floor"] (defScope s_Sure_shows) := ⟨rfl, rfl, rfl, by decide +kernel, rfl, by decide +kernel, by decide +kernel⟩
theorem ok_Sure_shows (Z : Ctx K mg) : FnAll P w K mg base (TT K) 16 (He.ma K (He.ga K "Sure") "shows") ["self", "looks", "step", "floor"] 4 F_Sure_shows :=
  fnAll (k := 15) Z.f_Sure_shows sc_Sure_shows (fun _ _ _ _ _ _ us hl => match us, hl with | [_, _, _, _], _ => rfl) fun cdv A outer s H E hr => by
    have hN := sc_Sure_shows.nd
    exact (dss_one (ds_ret (de_bool (bok_of (room_in hr) (rows_bool Z)) (do_v (de_call px_cx ((ok_judge_rings Z).fok hr) Z.g_judge_rings (da_cons (do_pl (pv 1)) (da_cons (do_pl (pv 2)) (da_cons (do_pl (pv 3)) da_nil))))) Z.n_bool)))
def D__law_cell_at : DSn :=
    (dSeq (dIte (dBl (d2 ltD (oPl 1) (oV (dL lenD (aCons (oPl 0) aNil))))) (dRet (d2 ixD (oPl 0) (oPl 1))) (dEnd .nx))
    (dRet (dC (.int 0))))
def F__law_cell_at : CF := cfOf 2 2 D__law_cell_at
theorem sc__law_cell_at : FnScope ["script", "k"] ["script", "k"] (defScope s__law_cell_at) := ⟨rfl, rfl, rfl, by decide +kernel, rfl, by decide +kernel, by decide +kernel⟩
theorem ok__law_cell_at (Z : Ctx K mg) : FnAll P w K mg base (TT K) 1 (He.ga K "_law_cell_at") ["script", "k"] 2 F__law_cell_at :=
  fnAll (k := 0) Z.f__law_cell_at sc__law_cell_at (fun _ _ _ _ _ _ us hl => match us, hl with | [_, _], _ => rfl) fun cdv A outer s H E hr => by
    have hN := sc__law_cell_at.nd
    exact (dss_cons (ds_if (dt_cmp s_lt op_lt (do_pl (pv 1)) (do_v (de_callB snd_len call_len2 (da_cons (do_pl (pv 0)) da_nil) Z.n_len boot_len))) (dss_one (ds_ret (de_ix (do_pl (pv 0)) (do_pl (pv 1))))) dss_nil)
    (dss_one (ds_ret de_int)))
def D__law_draw : DSn :=
    (dSeq (dSet 3 (oV (dTup (aCons (oV (dC (.int 1000003))) (aCons (oV (dC (.int 1000033))) (aCons (oV (dC (.int 1000037))) (aCons (oV (dC (.int 1000039))) (aCons (oV (dC (.int 1000081))) (aCons (oV (dC (.int 1000099))) (aCons (oV (dC (.int 1000117))) (aCons (oV (dC (.int 1000121))) (aCons (oV (dC (.int 1000133))) (aCons (oV (dC (.int 1000151))) (aCons (oV (dC (.int 1000159))) (aCons (oV (dC (.int 1000171))) (aCons (oV (dC (.int 1000183))) (aCons (oV (dC (.int 1000187))) (aCons (oV (dC (.int 1000193))) (aCons (oV (dC (.int 1000199))) aNil)))))))))))))))))))
    (dRet (d2 modD (oV (d2 modD (oV (dL intD (aCons (oV (d2 addD (oV (d2 mulA (oPl 0) (oV (dC (.int 48271))))) (oV (d2 mulA (oPl 1) (oV (dC (.int 69621))))))) aNil))) (oV (d2 ixD (oPl 3) (oV (d2 modD (oV (dL intD (aCons (oPl 1) aNil))) (oV (dC (.int 16))))))))) (oPl 2))))
def F__law_draw : CF := cfOf 4 3 D__law_draw
theorem sc__law_draw : FnScope ["cell", "k", "bound", "primes"] ["cell", "k", "bound"] (defScope s__law_draw) := ⟨rfl, rfl, rfl, by decide +kernel, rfl, by decide +kernel, by decide +kernel⟩
theorem ok__law_draw (Z : Ctx K mg) : FnAll P w K mg base (TT K) 1 (He.ga K "_law_draw") ["cell", "k", "bound"] 3 F__law_draw :=
  fnAll (k := 0) Z.f__law_draw sc__law_draw (fun _ _ _ _ _ _ us hl => match us, hl with | [_, _, _], _ => rfl) fun cdv A outer s H E hr => by
    have hN := sc__law_draw.nd
    exact (dss_cons (ds_set (i := 3) hN (do_v (de_tup (da_cons (do_v de_int) (da_cons (do_v de_int) (da_cons (do_v de_int) (da_cons (do_v de_int) (da_cons (do_v de_int) (da_cons (do_v de_int) (da_cons (do_v de_int) (da_cons (do_v de_int) (da_cons (do_v de_int) (da_cons (do_v de_int) (da_cons (do_v de_int) (da_cons (do_v de_int) (da_cons (do_v de_int) (da_cons (do_v de_int) (da_cons (do_v de_int) (da_cons (do_v de_int) da_nil)))))))))))))))))))
    (dss_one (ds_ret (de_mod (do_v (de_mod (do_v (de_callTy snd_int call_int1 (da_cons (do_v (de_add (do_v (de_mul (do_pl (pv 0)) (do_v de_int))) (do_v (de_mul (do_pl (pv 1)) (do_v de_int))))) da_nil) Z.n_int boot_int)) (do_v (de_ix (do_pl (pv 3)) (do_v (de_mod (do_v (de_callTy snd_int call_int1 (da_cons (do_pl (pv 1)) da_nil) Z.n_int boot_int)) (do_v de_int))))))) (do_pl (pv 2))))))
def D__law_number : DSn :=
    (dSeq (dSet 3 (oV (dC (.int 1))))
    (dSeq (dFor (iRes rng1 (aCons (oV (d2 modD (oV (dL intD (aCons (oPl 1) aNil))) (oV (dC (.int 24))))) aNil)) (gNm 4)
    (dSet 3 (oV (d2 mulA (oPl 3) (oV (dC (.int 1009)))))))
    (dSeq (dSet 5 (oV (d2 fdivD (oV (d2 (i0D fun i j => .int (i - j)) (oPl 0) (oV (d2 powD (oV (dC (.int 10))) (oV (dC (.int 18))))))) (oPl 3))))
    (dSeq (dIte (dBl (d2 gtD (oPl 5) (oV (dC (.int 0))))) (dRet (d2 modD (oV (d2 modD (oV (dL intD (aCons (oPl 5) aNil))) (oV (dC (.int 1009))))) (oPl 2))) (dEnd .nx))
    (dSeq (dSet 6 (oV (d2 modD (oV (dL intD (aCons (oPl 0) aNil))) (oV (dC (.int 1000003))))))
    (dRet (d2 modD (oV (dCall F__law_draw (aCons (oV (d2 mulA (oV (d2 addD (oPl 6) (oV (d2 mulA (oV (dC (.int 977))) (oPl 1))))) (oV (d2 addD (oV (d2 addD (oPl 6) (oV (d2 mulA (oV (dC (.int 31))) (oPl 1))))) (oV (dC (.int 5))))))) (aCons (oV (d2 addD (oV (d2 modD (oV (dL intD (aCons (oPl 1) aNil))) (oV (dC (.int 9))))) (oV (dC (.int 1))))) (aCons (oV (dC (.int 999983))) aNil))))) (oPl 2))))))))
def F__law_number : CF := cfOf 7 3 D__law_number
theorem sc__law_number : FnScope ["cell", "k", "bound", "scale", "lap", "remains", "small"] ["cell", "k", "bound"] (defScope s__law_number) := ⟨rfl, rfl, rfl, by decide +kernel, rfl, by decide +kernel, by decide +kernel⟩
theorem ok__law_number (Z : Ctx K mg) : FnAll P w K mg base (TT K) 4 (He.ga K "_law_number") ["cell", "k", "bound"] 3 F__law_number :=
  fnAll (k := 3) Z.f__law_number sc__law_number (fun _ _ _ _ _ _ us hl => match us, hl with | [_, _, _], _ => rfl) fun cdv A outer s H E hr => by
    have hN := sc__law_number.nd
    exact (dss_cons (ds_set (i := 3) hN (do_v de_int))
    (dss_cons (ds_for hp_cx rfl (di_range1 (da_cons (do_v (de_mod (do_v (de_callTy snd_int call_int1 (da_cons (do_pl (pv 1)) da_nil) Z.n_int boot_int)) (do_v de_int))) da_nil) Z.n_range) (dg_name hN)
    (dss_one (ds_set (i := 3) hN (do_v (de_mul (do_pl (pv 3)) (do_v de_int))))))
    (dss_cons (ds_set (i := 5) hN (do_v (de_fdiv (do_v (de_sub (do_pl (pv 0)) (do_v (de_pow (do_v de_int) (do_v de_int))))) (do_pl (pv 3)))))
    (dss_cons (ds_if (dt_cmp s_gt op_gt (do_pl (pv 5)) (do_v de_int)) (dss_one (ds_ret (de_mod (do_v (de_mod (do_v (de_callTy snd_int call_int1 (da_cons (do_pl (pv 5)) da_nil) Z.n_int boot_int)) (do_v de_int))) (do_pl (pv 2))))) dss_nil)
    (dss_cons (ds_set (i := 6) hN (do_v (de_mod (do_v (de_callTy snd_int call_int1 (da_cons (do_pl (pv 0)) da_nil) Z.n_int boot_int)) (do_v de_int))))
    (dss_one (ds_ret (de_mod (do_v (de_call px_cx ((ok__law_draw Z).fok hr) Z.g__law_draw (da_cons (do_v (de_mul (do_v (de_add (do_pl (pv 6)) (do_v (de_mul (do_v de_int) (do_pl (pv 1)))))) (do_v (de_add (do_v (de_add (do_pl (pv 6)) (do_v (de_mul (do_v de_int) (do_pl (pv 1)))))) (do_v de_int))))) (da_cons (do_v (de_add (do_v (de_mod (do_v (de_callTy snd_int call_int1 (da_cons (do_pl (pv 1)) da_nil) Z.n_int boot_int)) (do_v de_int))) (do_v de_int))) (da_cons (do_v de_int) da_nil))))) (do_pl (pv 2))))))))))
def D__law_next : DSn :=
    (dSeq (dSetIx 0 (dC (.int 2)) (d2 addD (oV (d2 ixD (oPl 0) (oV (dC (.int 2))))) (oV (dC (.int 1)))))
    (dSeq (dSet 2 (oV (d2 fdivD (oV (d2 ixD (oPl 0) (oV (dC (.int 2))))) (oV (dC (.int 12))))))
    (dSeq (dSet 3 (oV (d2 addD (oV (dCall F__law_cell_at (aCons (oV (d2 ixD (oPl 0) (oV (dC (.int 0))))) (aCons (oV (d2 addD (oV (d2 ixD (oPl 0) (oV (dC (.int 1))))) (oPl 2))) aNil)))) (oV (d2 mulA (oV (dC (.int 31))) (oPl 2))))))
    (dRet (dCall F__law_number (aCons (oPl 3) (aCons (oV (d2 addD (oV (d2 modD (oV (dL intD (aCons (oV (d2 ixD (oPl 0) (oV (dC (.int 2))))) aNil))) (oV (dC (.int 12))))) (oV (dC (.int 1))))) (aCons (oPl 1) aNil))))))))
def F__law_next : CF := cfOf 4 2 D__law_next
theorem sc__law_next : FnScope ["draw", "bound", "at", "cell"] ["draw", "bound"] (defScope s__law_next) := ⟨rfl, rfl, rfl, by decide +kernel, rfl, by decide +kernel, by decide +kernel⟩
theorem ok__law_next (Z : Ctx K mg) : FnAll P w K mg base (TT K) 7 (He.ga K "_law_next") ["draw", "bound"] 2 F__law_next :=
  fnAll (k := 6) Z.f__law_next sc__law_next (fun _ _ _ _ _ _ us hl => match us, hl with | [_, _], _ => rfl) fun cdv A outer s H E hr => by
    have hN := sc__law_next.nd
    exact (dss_cons (ds_setIx (pv 0) de_int (de_add (do_v (de_ix (do_pl (pv 0)) (do_v de_int))) (do_v de_int)))
    (dss_cons (ds_set (i := 2) hN (do_v (de_fdiv (do_v (de_ix (do_pl (pv 0)) (do_v de_int))) (do_v de_int))))
    (dss_cons (ds_set (i := 3) hN (do_v (de_add (do_v (de_call px_cx ((ok__law_cell_at Z).fok hr) Z.g__law_cell_at (da_cons (do_v (de_ix (do_pl (pv 0)) (do_v de_int))) (da_cons (do_v (de_add (do_v (de_ix (do_pl (pv 0)) (do_v de_int))) (do_pl (pv 2)))) da_nil)))) (do_v (de_mul (do_v de_int) (do_pl (pv 2)))))))
    (dss_one (ds_ret (de_call px_cx ((ok__law_number Z).fok hr) Z.g__law_number (da_cons (do_pl (pv 3)) (da_cons (do_v (de_add (do_v (de_mod (do_v (de_callTy snd_int call_int1 (da_cons (do_v (de_ix (do_pl (pv 0)) (do_v de_int))) da_nil) Z.n_int boot_int)) (do_v de_int))) (do_v de_int))) (da_cons (do_pl (pv 1)) da_nil)))))))))
def D__law_lengths : DSn :=
    (dSeq (dSet 3 (oLst (aCons (oV (dCall F__law_next (aCons (oPl 0) (aCons (oV (dC (.int 10))) aNil)))) aNil)))
    (dSeq (dFor (iRes rng1 (aCons (oV (d2 (i0D fun i j => .int (i - j)) (oPl 1) (oV (dC (.int 1))))) aNil)) (gNm 4)
    (dSet 3 (oV (d2 addD (oPl 3) (oLst (aCons (oV (dL maxD (aCons (oLst (aCons (oV (dC (.int 0))) (aCons (oV (dL minD (aCons (oLst (aCons (oV (dC (.int 9))) (aCons (oV (d2 (i0D fun i j => .int (i - j)) (oV (d2 addD (oV (d2 ixD (oPl 3) (oV (dNeg (oV (dC (.int 1))))))) (oV (dCall F__law_next (aCons (oPl 0) (aCons (oV (d2 addD (oV (d2 mulA (oV (dC (.int 2))) (oPl 2))) (oV (dC (.int 1))))) aNil)))))) (oPl 2))) aNil))) aNil))) aNil))) aNil))) aNil))))))
    (dRet (dL tupleD (aCons (oPl 3) aNil)))))
def F__law_lengths : CF := cfOf 5 3 D__law_lengths
theorem sc__law_lengths : FnScope ["draw", "many", "step", "found", "turn"] ["draw", "many", "step"] (defScope s__law_lengths) := ⟨rfl, rfl, rfl, by decide +kernel, rfl, by decide +kernel, by decide +kernel⟩
theorem ok__law_lengths (Z : Ctx K mg) : FnAll P w K mg base (TT K) 10 (He.ga K "_law_lengths") ["draw", "many", "step"] 3 F__law_lengths :=
  fnAll (k := 9) Z.f__law_lengths sc__law_lengths (fun _ _ _ _ _ _ us hl => match us, hl with | [_, _, _], _ => rfl) fun cdv A outer s H E hr => by
    have hN := sc__law_lengths.nd
    exact (dss_cons (ds_set (i := 3) hN (do_lst (da_cons (do_v (de_call px_cx ((ok__law_next Z).fok hr) Z.g__law_next (da_cons (do_pl (pv 0)) (da_cons (do_v de_int) da_nil)))) da_nil)))
    (dss_cons (ds_for hp_cx rfl (di_range1 (da_cons (do_v (de_sub (do_pl (pv 1)) (do_v de_int))) da_nil) Z.n_range) (dg_name hN)
    (dss_one (ds_set (i := 3) hN (do_v (de_add (do_pl (pv 3)) (do_lst (da_cons (do_v (de_callB snd_maxS (call_maxS rfl) (da_cons (do_lst (da_cons (do_v de_int) (da_cons (do_v (de_callB snd_minS (call_minS rfl) (da_cons (do_lst (da_cons (do_v de_int) (da_cons (do_v (de_sub (do_v (de_add (do_v (de_ix (do_pl (pv 3)) (do_v (de_neg (do_v de_int))))) (do_v (de_call px_cx ((ok__law_next Z).fok hr) Z.g__law_next (da_cons (do_pl (pv 0)) (da_cons (do_v (de_add (do_v (de_mul (do_v de_int) (do_pl (pv 2)))) (do_v de_int))) da_nil)))))) (do_pl (pv 2)))) da_nil))) da_nil) Z.n_min boot_min)) da_nil))) da_nil) Z.n_max boot_max)) da_nil)))))))
    (dss_one (ds_ret (de_callTy snd_tuple call_tupleP (da_cons (do_pl (pv 3)) da_nil) Z.n_tuple boot_tuple)))))
def D_least_room : DSn :=
    (dSeq (dDrop (oV (dCall F_check_queue (aCons (oPl 0) (aCons (oV (dC (.int 0))) aNil)))))
    (dSeq (dDrop (oV (dCall F_check_moves (aCons (oPl 1) aNil))))
    (dSeq (dFor (iRes rng1 (aCons (oV (d2 addD (oV (dC vv_MOST_ROOM)) (oV (dC (.int 1))))) aNil)) (gNm 2)
    (dIte (dTru M_bool (oV (dCall F_judge_moves (aCons (oPl 0) (aCons (oPl 2) (aCons (oPl 1) aNil)))))) (dRet (dName 2)) (dEnd .nx)))
    (dRet (dC .non)))))
def F_least_room : CF := cfOf 3 2 D_least_room
theorem sc_least_room : FnScope ["kind", "moves", "room"] ["kind", "moves"] (defScope s_least_room) := ⟨rfl, rfl, rfl, by decide +kernel, rfl, by decide +kernel, by decide +kernel⟩
theorem ok_least_room (Z : Ctx K mg) : FnAll P w K mg base (TT K) 19 (He.ga K "least_room") ["kind", "moves"] 2 F_least_room :=
  fnAll (k := 18) Z.f_least_room sc_least_room (fun _ _ _ _ _ _ us hl => match us, hl with | [_, _], _ => rfl) fun cdv A outer s H E hr => by
    have hN := sc_least_room.nd
    exact (dss_cons (ds_expr (do_v (de_call px_cx ((ok_check_queue Z).fok hr) Z.g_check_queue (da_cons (do_pl (pv 0)) (da_cons (do_v de_int) da_nil)))))
    (dss_cons (ds_expr (do_v (de_call px_cx ((ok_check_moves Z).fok hr) Z.g_check_moves (da_cons (do_pl (pv 1)) da_nil))))
    (dss_cons (ds_for hp_cx rfl (di_range1 (da_cons (do_v (de_add (do_v Z.c_MOST_ROOM) (do_v de_int))) da_nil) Z.n_range) (dg_name hN)
    (dss_one (ds_if (dt_tru (bok_of hr (rows_bool Z)) (do_v (de_call px_cx ((ok_judge_moves Z).fok hr) Z.g_judge_moves (da_cons (do_pl (pv 0)) (da_cons (do_pl (pv 2)) (da_cons (do_pl (pv 1)) da_nil)))))) (dss_one (ds_ret (de_name (pv 2)))) dss_nil)))
    (dss_one (ds_ret de_non)))))
def D_lengths_behind : DSn :=
    (dSeq (dDrop (oV (dCall F_check_queue (aCons (oPl 0) (aCons (oPl 1) aNil)))))
    (dSeq (dDrop (oV (dCall F_check_moves (aCons (oPl 2) aNil))))
    (dSeq (dPar [3, 4] (aCons (oV (dFz (oMake 0 F_Queuedd_initdd (aCons (oPl 0) (aCons (oPl 1) (aCons (oV (dTup aNil)) aNil)))))) (aCons (oLst (aCons (oV (dC (.int 0))) aNil)) aNil)))
    (dSeq (dFor (iVals enum1 (aCons (oV (dName 2)) aNil)) (gTp (gsCons (gNm 5) (gsCons (gTp (gsCons (gNm 6) (gsCons (gNm 7) gsNil))) gsNil)))
    (dSeq (dIte (tOrD (tAndD (dBl (d2 eqD (oPl 6) (oV (dC (.str "in"))))) (dTru M_bool (oV (dMeth M_is_full (oPl 3) aNil)))) (tAndD (dBl (d2 eqD (oPl 6) (oV (dC (.str "out"))))) (dBl (d2 (inD true) (oPl 7) (oV (dMeth M_nexts (oPl 3) aNil)))))) dNever (dEnd .nx))
    (dSeq (dSet 3 (oV (dIf (dBl (d2 eqD (oPl 6) (oV (dC (.str "in"))))) (dMeth M_put (oPl 3) (aCons (oPl 7) aNil)) (dMeth M_take (oPl 3) (aCons (oPl 7) aNil)))))
    (dApp 4 (dL lenD (aCons (oV (dFld fp_letters (oPl 3))) aNil))))))
    (dRet (dL tupleD (aCons (oPl 4) aNil)))))))
def F_lengths_behind : CF := cfOf 8 3 D_lengths_behind
theorem sc_lengths_behind : FnScope ["kind", "room", "moves", "queue", "found", "place", "word", "letter"] ["kind", "room", "moves"] (defScope s_lengths_behind) := ⟨rfl, rfl, rfl, by decide +kernel, rfl, by decide +kernel, by decide +kernel⟩
theorem ok_lengths_behind (Z : Ctx K mg) : FnAll P w K mg base (TT K) 16 (He.ga K "lengths_behind") ["kind", "room", "moves"] 3 F_lengths_behind :=
  fnAll (k := 15) Z.f_lengths_behind sc_lengths_behind (fun _ _ _ _ _ _ us hl => match us, hl with | [_, _, _], _ => rfl) fun cdv A outer s H E hr => by
    have hN := sc_lengths_behind.nd
    exact (dss_cons (ds_expr (do_v (de_call px_cx ((ok_check_queue Z).fok hr) Z.g_check_queue (da_cons (do_pl (pv 0)) (da_cons (do_pl (pv 1)) da_nil)))))
    (dss_cons (ds_expr (do_v (de_call px_cx ((ok_check_moves Z).fok hr) Z.g_check_moves (da_cons (do_pl (pv 2)) da_nil))))
    (dss_cons (ds_par2 (i := 3) (j := 4) rfl hN (da_cons (do_v (de_o (do_make px_cx ((ok_Queuedd_initdd Z).kok Z.mk_Queue hr) Z.g_Queue (da_cons (do_pl (pv 0)) (da_cons (do_pl (pv 1)) (da_cons (do_v (de_tup da_nil)) da_nil)))))) (da_cons (do_lst (da_cons (do_v de_int) da_nil)) da_nil)))
    (dss_cons (ds_for hp_cx rfl (di_enum (da_cons (do_v (de_name (pv 2))) da_nil) Z.n_enumerate) (dg_tup rfl (dgs_cons (dg_name hN) (dgs_cons (dg_tup rfl (dgs_cons (dg_name hN) (dgs_cons (dg_name hN) dgs_nil)) (takes_cons (takes_cons takes_nil))) dgs_nil)) (takes_cons (takes_cons takes_nil)))
    (dss_cons (ds_if (dt_w (dw_or (dt_w (dw_and (dt_cmp s_eq (op_eqD hr.units) (do_pl (pv 6)) (do_v de_str)) (dw_and1 (dt_tru (bok_of hr (rows_bool Z)) (do_v (de_meth0 px_cx (mok_of hr (rows_is_full Z) some_is_full) (do_pl (pv 3)))))))) (dw_or1 (dt_w (dw_and (dt_cmp s_eq (op_eqD hr.units) (do_pl (pv 6)) (do_v de_str)) (dw_and1 (dt_cmp s_in (op_notInA (u65 hr)) (do_pl (pv 7)) (do_v (de_meth0 px_cx (mok_of hr (rows_nexts Z) some_nexts) (do_pl (pv 3))))))))))) (dss_one ds_never) dss_nil)
    (dss_cons (ds_set (i := 3) hN (do_v (de_if (dt_cmp s_eq (op_eqD hr.units) (do_pl (pv 6)) (do_v de_str)) (de_meth px_cx (mok_of hr (rows_put Z) some_put) (do_pl (pv 3)) (da_cons (do_pl (pv 7)) da_nil)) (de_meth px_cx (mok_of hr (rows_take Z) some_take) (do_pl (pv 3)) (da_cons (do_pl (pv 7)) da_nil)))))
    (dss_one (ds_app (pv 4) (de_callB snd_len call_len2 (da_cons (do_v (de_fld Z.a_letters (do_pl (pv 3)))) da_nil) Z.n_len boot_len))))))
    (dss_one (ds_ret (de_callTy snd_tuple call_tupleP (da_cons (do_pl (pv 4)) da_nil) Z.n_tuple boot_tuple)))))))
def D_stretches_above : DSn :=
    (dSeq (dDrop (oV (dCall F_check_lengths (aCons (oPl 0) aNil))))
    (dSeq (dIte (tNotD (dTru M_bool (oV (dCall F_is_number (aCons (oPl 1) (aCons (oV (dC (.int 0))) (aCons (oV (dC (.int 9))) aNil))))))) dNever (dEnd .nx))
    (dSeq (dSet 2 (oLst aNil))
    (dSeq (dFor (iVals enum1 (aCons (oV (dName 0)) aNil)) (gTp (gsCons (gNm 3) (gsCons (gNm 4) gsNil)))
    (dIte (dBl (d2 gtD (oPl 4) (oPl 1))) (dIte (tAndD (dBl (d2 neD (oPl 2) (oLst aNil))) (dBl (d2 eqD (oV (d2 ixD (oV (d2 ixD (oPl 2) (oV (dNeg (oV (dC (.int 1))))))) (oV (dC (.int 1))))) (oPl 3)))) (dSetIx 2 (dNeg (oV (dC (.int 1)))) (dTup (aCons (oV (d2 ixD (oV (d2 ixD (oPl 2) (oV (dNeg (oV (dC (.int 1))))))) (oV (dC (.int 0))))) (aCons (oV (d2 addD (oPl 3) (oV (dC (.int 1))))) aNil)))) (dApp 2 (dTup (aCons (oV (dName 3)) (aCons (oV (d2 addD (oPl 3) (oV (dC (.int 1))))) aNil))))) (dEnd .nx)))
    (dRet (dL tupleD (aCons (oPl 2) aNil)))))))
def F_stretches_above : CF := cfOf 5 2 D_stretches_above
theorem sc_stretches_above : FnScope ["lengths", "above", "found", "tick", "length"] ["lengths", "above"] (defScope s_stretches_above) := ⟨rfl, rfl, rfl, by decide +kernel, rfl, by decide +kernel, by decide +kernel⟩
theorem ok_stretches_above (Z : Ctx K mg) : FnAll P w K mg base (TT K) 10 (He.ga K "stretches_above") ["lengths", "above"] 2 F_stretches_above :=
  fnAll (k := 9) Z.f_stretches_above sc_stretches_above (fun _ _ _ _ _ _ us hl => match us, hl with | [_, _], _ => rfl) fun cdv A outer s H E hr => by
    have hN := sc_stretches_above.nd
    exact (dss_cons (ds_expr (do_v (de_call px_cx ((ok_check_lengths Z).fok hr) Z.g_check_lengths (da_cons (do_pl (pv 0)) da_nil))))
    (dss_cons (ds_if (dt_not (dt_tru (bok_of hr (rows_bool Z)) (do_v (de_call px_cx ((ok_is_number Z).fok hr) Z.g_is_number (da_cons (do_pl (pv 1)) (da_cons (do_v de_int) (da_cons (do_v de_int) da_nil))))))) (dss_one ds_never) dss_nil)
    (dss_cons (ds_set (i := 2) hN (do_lst da_nil))
    (dss_cons (ds_for hp_cx rfl (di_enum (da_cons (do_v (de_name (pv 0))) da_nil) Z.n_enumerate) (dg_tup rfl (dgs_cons (dg_name hN) (dgs_cons (dg_name hN) dgs_nil)) (takes_cons (takes_cons takes_nil)))
    (dss_one (ds_if (dt_cmp s_gt op_gt (do_pl (pv 4)) (do_pl (pv 1))) (dss_one (ds_if (dt_w (dw_and (dt_cmp s_ne (op_neD hr.units) (do_pl (pv 2)) (do_lst da_nil)) (dw_and1 (dt_cmp s_eq (op_eqD hr.units) (do_v (de_ix (do_v (de_ix (do_pl (pv 2)) (do_v (de_neg (do_v de_int))))) (do_v de_int))) (do_pl (pv 3)))))) (dss_one (ds_setIx (pv 2) (de_neg (do_v de_int)) (de_tup (da_cons (do_v (de_ix (do_v (de_ix (do_pl (pv 2)) (do_v (de_neg (do_v de_int))))) (do_v de_int))) (da_cons (do_v (de_add (do_pl (pv 3)) (do_v de_int))) da_nil))))) (dss_one (ds_app (pv 2) (de_tup (da_cons (do_v (de_name (pv 3))) (da_cons (do_v (de_add (do_pl (pv 3)) (do_v de_int))) da_nil))))))) dss_nil)))
    (dss_one (ds_ret (de_callTy snd_tuple call_tupleP (da_cons (do_pl (pv 2)) da_nil) Z.n_tuple boot_tuple)))))))
def D_widest_looks : DSn :=
    (dSeq (dSet 5 (oLc (iRes rng2 (aCons (oV (dC (.int 1))) (aCons (oV (dC (.int 7))) aNil))) [4] (gNm 4) (dTru M_bool (oV (dCall F_judge_rings (aCons (oV (dFz (oMake 3 F_Looksdd_initdd (aCons (oPl 4) (aCons (oPl 0) (aCons (oPl 1) aNil)))))) (aCons (oPl 2) (aCons (oPl 3) aNil)))))) (dName 4)))
    (dRet (dIf (dBl (d2 neD (oPl 5) (oLst aNil))) (dL maxD (aCons (oPl 5) aNil)) (dC .non))))
def F_widest_looks : CF := cfOf 6 4 D_widest_looks
theorem sc_widest_looks : FnScope ["many", "above", "step", "floor", "every", "found"] ["many", "above", "step", "floor"] (defScope s_widest_looks) := ⟨rfl, rfl, rfl, by decide +kernel, rfl, by decide +kernel, by decide +kernel⟩
theorem ok_widest_looks (Z : Ctx K mg) : FnAll P w K mg base (TT K) 16 (He.ga K "widest_looks") ["many", "above", "step", "floor"] 4 F_widest_looks :=
  fnAll (k := 15) Z.f_widest_looks sc_widest_looks (fun _ _ _ _ _ _ us hl => match us, hl with | [_, _, _, _], _ => rfl) fun cdv A outer s H E hr => by
    have hN := sc_widest_looks.nd
    exact (dss_cons (by first | exact (ds_set (i := 5) hN (do_lc (own := [("every", 4)]) rfl hN (by kernel_rfl) (by decide) (di_range2 (da_cons (do_v de_int) (da_cons (do_v de_int) da_nil)) Z.n_range) (fun _ _ _ _ _ => (dg_name hN)) (fun _ _ _ _ _ => (dts_one (dt_tru (bok_of hr (rows_bool Z)) (do_v (de_call psx0 ((ok_judge_rings Z).fok hr) Z.g_judge_rings (da_cons (do_v (de_o (do_make psx0 ((ok_Looksdd_initdd Z).kok Z.mk_Looks hr) Z.g_Looks (da_cons (do_pl (pv 4)) (da_cons (do_pl (pv 0)) (da_cons (do_pl (pv 1)) da_nil)))))) (da_cons (do_pl (pv 2)) (da_cons (do_pl (pv 3)) da_nil)))))))) (fun _ _ _ _ _ => (de_name (pv 4))))) | exact (ds_setLc (i := 5) (own := [("every", 4)]) rfl hN (by kernel_rfl) (by decide) (di_range2 (da_cons (do_v de_int) (da_cons (do_v de_int) da_nil)) Z.n_range) (fun _ _ _ _ _ => (dg_name hN)) (fun _ _ _ _ _ => (dts_one (dt_tru (bok_of hr (rows_bool Z)) (do_v (de_call psx0 ((ok_judge_rings Z).fok hr) Z.g_judge_rings (da_cons (do_v (de_o (do_make psx0 ((ok_Looksdd_initdd Z).kok Z.mk_Looks hr) Z.g_Looks (da_cons (do_pl (pv 4)) (da_cons (do_pl (pv 0)) (da_cons (do_pl (pv 1)) da_nil)))))) (da_cons (do_pl (pv 2)) (da_cons (do_pl (pv 3)) da_nil)))))))) (fun _ _ _ _ _ => (de_name (pv 4))) (sw_true rfl rfl rfl (by decide +kernel))))
    (dss_one (ds_ret (de_if (dt_cmp s_ne (op_neD hr.units) (do_pl (pv 5)) (do_lst da_nil)) (de_callB snd_maxS (call_maxS rfl) (da_cons (do_pl (pv 5)) da_nil) Z.n_max boot_max) de_non))))
def M_shows : Nat → Option CF
  | 1 => some F_Fits_shows
  | 2 => some F_Stuck_shows
  | 4 => some F_Sure_shows
  | 5 => some F_Lying_shows
  | 6 => some F_Rung_shows
  | 7 => some F_Missed_shows
  | _ => none
theorem rows_shows {X : Cx} {k' : Nat} (Z : Ctx X.K X.mg) (hk : 19 ≤ k' := by decide) : ∀ c F, M_shows c = some F → MRow X (TT X.K) "shows" 4 k' c F := fun c F e => by
  unfold M_shows at e
  split at e
  · cases e; exact (ok_Fits_shows Z).mrow (c := 1) Z.k_Fits Z.m_Fits_shows (by show _ ∉ layC 1; decide +kernel) (Nat.le_trans (by decide) hk)
  · cases e; exact (ok_Stuck_shows Z).mrow (c := 2) Z.k_Stuck Z.m_Stuck_shows (by show _ ∉ layC 2; decide +kernel) (Nat.le_trans (by decide) hk)
  · cases e; exact (ok_Sure_shows Z).mrow (c := 4) Z.k_Sure Z.m_Sure_shows (by show _ ∉ layC 4; decide +kernel) (Nat.le_trans (by decide) hk)
  · cases e; exact (ok_Lying_shows Z).mrow (c := 5) Z.k_Lying Z.m_Lying_shows (by show _ ∉ layC 5; decide +kernel) (Nat.le_trans (by decide) hk)
  · cases e; exact (ok_Rung_shows Z).mrow (c := 6) Z.k_Rung Z.m_Rung_shows (by show _ ∉ layC 6; decide +kernel) (Nat.le_trans (by decide) hk)
  · cases e; exact (ok_Missed_shows Z).mrow (c := 7) Z.k_Missed Z.m_Missed_shows (by show _ ∉ layC 7; decide +kernel) (Nat.le_trans (by decide) hk)
  · cases e
theorem some_shows : ∃ c F, M_shows c = some F := ⟨1, _, rfl⟩
def S_law_0 : DSn := (dSet 1 (oLst (aCons (oV (dSl (oPl 0) pNo (pSome (dC (.int 63))))) (aCons (oV (dC (.int 0))) (aCons (oV (dC (.int 0))) aNil)))))
def S_law_1 : DSn := (dPar [3, 4, 5, 6] (aCons (oV (d2 addD (oV (dC (.int 1))) (oV (dCall F__law_next (aCons (oPl 1) (aCons (oV (dC (.int 6))) aNil)))))) (aCons (oV (d2 addD (oV (dC (.int 1))) (oV (dCall F__law_next (aCons (oPl 1) (aCons (oV (dC (.int 4))) aNil)))))) (aCons (oV (dCall F__law_next (aCons (oPl 1) (aCons (oV (dC (.int 9))) aNil)))) (aCons (oV (dCall F__law_next (aCons (oPl 1) (aCons (oV (dC (.int 4))) aNil)))) aNil)))))
def S_law_2 : DSn := (dPar [7, 8] (aCons (oV (dFz (oMake 3 F_Looksdd_initdd (aCons (oPl 3) (aCons (oPl 4) (aCons (oPl 5) aNil)))))) (aCons (oV (dCall F__law_lengths (aCons (oPl 1) (aCons (oV (d2 addD (oV (dC (.int 1))) (oV (dCall F__law_next (aCons (oPl 1) (aCons (oV (dC (.int 40))) aNil)))))) (aCons (oPl 6) aNil))))) aNil)))
def S_law_3 : DSn := (dSet 9 (oV (dCall F_rings_of (aCons (oPl 7) (aCons (oPl 8) aNil)))))
def S_law_4 : DSn := (dIte (tOrD (tAndD (dBl (d2 gtD (oPl 4) (oV (dC (.int 1))))) (dBl (dL anyD (aCons (oLc (iSeq (dName 9)) [10] (gNm 10) tTrue (d2 (inD true) (oPl 10) (oV (dCall F_rings_of (aCons (oV (dFz (oMake 3 F_Looksdd_initdd (aCons (oPl 3) (aCons (oV (d2 (i0D fun i j => .int (i - j)) (oPl 4) (oV (dC (.int 1))))) (aCons (oPl 5) aNil)))))) (aCons (oPl 8) aNil)))))) aNil)))) (tOrD (tAndD (dBl (d2 gtD (oPl 5) (oV (dC (.int 0))))) (dBl (dL anyD (aCons (oLc (iSeq (dName 9)) [10] (gNm 10) tTrue (d2 (inD true) (oPl 10) (oV (dCall F_rings_of (aCons (oV (dFz (oMake 3 F_Looksdd_initdd (aCons (oPl 3) (aCons (oPl 4) (aCons (oV (d2 (i0D fun i j => .int (i - j)) (oPl 5) (oV (dC (.int 1))))) aNil)))))) (aCons (oPl 8) aNil)))))) aNil)))) (dBl (dL anyD (aCons (oLc (iSeq (dName 9)) [10] (gNm 10) tTrue (d2 (inD true) (oPl 10) (oV (dCall F_rings_of (aCons (oPl 7) (aCons (oV (dL tupleD (aCons (oLc (iSeq (dName 8)) [11] (gNm 11) tTrue (dL minD (aCons (oLst (aCons (oV (dC (.int 9))) (aCons (oV (d2 addD (oPl 11) (oV (dC (.int 1))))) aNil))) aNil))) aNil))) aNil)))))) aNil))))) (dRet (dC (.bl false))) (dEnd .nx))
def S_law_5 : DSn := (dSet 12 (oV (d2 addD (oV (dC (.int 1))) (oV (dCall F__law_next (aCons (oPl 1) (aCons (oV (dL lenD (aCons (oPl 8) aNil))) aNil)))))))
def S_law_6 : DSn := (dIte (tOrD (dBl (d2 neD (oV (dCall F_rings_of (aCons (oPl 7) (aCons (oV (dSl (oPl 8) pNo (pSome (dName 12)))) aNil)))) (oV (dL tupleD (aCons (oLc (iSeq (dName 9)) [10] (gNm 10) (dBl (d2 ltD (oPl 10) (oPl 12))) (dName 10)) aNil))))) (tOrD (dBl (d2 neD (oV (dCall F_rings_of (aCons (oPl 7) (aCons (oV (d2 addD (oV (d2 mulA (oV (dTup (aCons (oV (dC (.int 0))) aNil))) (oV (d2 mulA (oV (dC (.int 2))) (oPl 3))))) (oPl 8))) aNil)))) (oV (dL tupleD (aCons (oLc (iSeq (dName 9)) [10] (gNm 10) tTrue (d2 addD (oPl 10) (oV (d2 mulA (oV (dC (.int 2))) (oPl 3))))) aNil))))) (tNotD (dBl (dL allD (aCons (oLc (iSeq (dName 9)) [10] (gNm 10) tTrue (dAnd (d2 eqD (oV (d2 (i0D fun i j => .int (i - j)) (oPl 10) (oV (d2 mulA (oPl 3) (oV (d2 fdivD (oPl 10) (oPl 3))))))) (oV (dC (.int 0)))) (d2 geD (oPl 10) (oV (dMeth M_span (oPl 7) aNil))))) aNil)))))) (dRet (dC (.bl false))) (dEnd .nx))
def S_law_7 : DSn := (dSet 13 (oV (dCall F_rings_of (aCons (oV (dFz (oMake 3 F_Looksdd_initdd (aCons (oV (dC (.int 1))) (aCons (oV (dC (.int 1))) (aCons (oPl 5) aNil)))))) (aCons (oPl 8) aNil)))))
def S_law_8 : DSn := (dIte (tOrD (dBl (d2 neD (oPl 13) (oV (dL tupleD (aCons (oV (dLV sumLD (aCons (oV (dFz (oLc (iSeq (dCall F_stretches_above (aCons (oPl 8) (aCons (oPl 5) aNil)))) [14, 15] (gTp (gsCons (gNm 14) (gsCons (gNm 15) gsNil))) tTrue (dFz (oLc (iRes rng2 (aCons (oPl 14) (aCons (oPl 15) aNil))) [10] (gNm 10) tTrue (dName 10)))))) (aCons (oV (dLst aNil)) aNil)))) aNil))))) (dBl (dL anyD (aCons (oLc (iSeq (dName 9)) [10] (gNm 10) tTrue (d2 (inD true) (oPl 10) (oPl 13))) aNil)))) (dRet (dC (.bl false))) (dEnd .nx))
def S_law_9 : DSn := (dFor (iSeq (dName 9)) (gNm 10)
    (dSeq (dSet 16 (oV (dL minD (aCons (oV (dSl (oPl 8) (pSome (d2 (i0D fun i j => .int (i - j)) (oPl 10) (oV (dMeth M_span (oPl 7) aNil)))) (pSome (d2 addD (oPl 10) (oV (dC (.int 1))))))) aNil))))
    (dIte (tOrD (dBl (d2 ltD (oPl 16) (oV (dCall F_least_between (aCons (oPl 7) (aCons (oPl 6) aNil)))))) (tOrD (dTru M_bool (oV (dCall F_is_true_ring (aCons (oPl 7) (aCons (oPl 8) (aCons (oPl 10) (aCons (oPl 16) aNil))))))) (tAndD (dBl (d2 gtD (oPl 16) (oV (dC (.int 0))))) (tNotD (dTru M_bool (oV (dCall F_is_true_ring (aCons (oPl 7) (aCons (oPl 8) (aCons (oPl 10) (aCons (oV (d2 (i0D fun i j => .int (i - j)) (oPl 16) (oV (dC (.int 1))))) aNil))))))))))) (dRet (dC (.bl false))) (dEnd .nx))))
def S_law_10 : DSn := (dFor (iSeq (dCall F_stretches_above (aCons (oPl 8) (aCons (oPl 5) aNil)))) (gTp (gsCons (gNm 14) (gsCons (gNm 15) gsNil)))
    (dIte (tOrD (tAndD (dBl (d2 geD (oV (d2 (i0D fun i j => .int (i - j)) (oPl 15) (oPl 14))) (oV (dCall F_latest_ring (aCons (oPl 7) (aCons (oPl 6) aNil)))))) (tNotD (dBl (dL anyD (aCons (oLc (iSeq (dName 9)) [10] (gNm 10) tTrue (d3 leD ltD (oPl 14) (oPl 10) (oPl 15))) aNil))))) (tAndD (dBl (d2 gtD (oV (d2 (i0D fun i j => .int (i - j)) (oPl 15) (oPl 14))) (oV (dCall F_latest_ring (aCons (oPl 7) (aCons (oPl 6) aNil)))))) (tAndD (dBl (d2 gtD (oPl 6) (oV (dC (.int 0))))) (tNotD (dBl (dL anyD (aCons (oLc (iSeq (dName 9)) [10] (gNm 10) tTrue (d3 leD ltD (oPl 14) (oPl 10) (oV (d2 addD (oPl 14) (oV (dCall F_latest_ring (aCons (oPl 7) (aCons (oPl 6) aNil)))))))) aNil))))))) (dRet (dC (.bl false))) (dEnd .nx)))
def S_law_11 : DSn := (dIte (tOrD (dBl (d2 gtD (oV (dCall F_least_between (aCons (oPl 7) (aCons (oPl 6) aNil)))) (oV (dCall F_least_between (aCons (oV (dFz (oMake 3 F_Looksdd_initdd (aCons (oPl 3) (aCons (oV (dC (.int 1))) (aCons (oPl 5) aNil)))))) (aCons (oPl 6) aNil)))))) (tOrD (tAndD (dBl (d2 gtD (oPl 6) (oV (dC (.int 0))))) (dBl (d2 gtD (oV (dCall F_least_between (aCons (oPl 7) (aCons (oPl 6) aNil)))) (oV (dCall F_least_between (aCons (oPl 7) (aCons (oV (d2 (i0D fun i j => .int (i - j)) (oPl 6) (oV (dC (.int 1))))) aNil))))))) (tAndD (dBl (d2 gtD (oPl 3) (oV (dC (.int 1))))) (dBl (d2 gtD (oV (dCall F_least_between (aCons (oPl 7) (aCons (oPl 6) aNil)))) (oV (dCall F_least_between (aCons (oV (dFz (oMake 3 F_Looksdd_initdd (aCons (oV (d2 (i0D fun i j => .int (i - j)) (oPl 3) (oV (dC (.int 1))))) (aCons (oPl 4) (aCons (oPl 5) aNil)))))) (aCons (oPl 6) aNil))))))))) (dRet (dC (.bl false))) (dEnd .nx))
def S_law_12 : DSn := (dFor (iRes rng1 (aCons (oV (dC (.int 9))) aNil)) (gNm 17)
    (dIte (tOrD (tAndD (dTru M_bool (oV (dCall F_judge_rings (aCons (oPl 7) (aCons (oPl 6) (aCons (oV (d2 addD (oPl 17) (oV (dC (.int 1))))) aNil)))))) (tNotD (dTru M_bool (oV (dCall F_judge_rings (aCons (oPl 7) (aCons (oPl 6) (aCons (oPl 17) aNil)))))))) (tAndD (dBl (d2 gtD (oPl 6) (oV (dC (.int 0))))) (tAndD (dTru M_bool (oV (dCall F_judge_rings (aCons (oPl 7) (aCons (oPl 6) (aCons (oPl 17) aNil)))))) (tNotD (dTru M_bool (oV (dCall F_judge_rings (aCons (oPl 7) (aCons (oV (d2 (i0D fun i j => .int (i - j)) (oPl 6) (oV (dC (.int 1))))) (aCons (oPl 17) aNil)))))))))) (dRet (dC (.bl false))) (dEnd .nx)))
def S_law_13 : DSn := (dFor (iSeq (dTup (aCons (oV (dC (.int 1))) (aCons (oV (dName 3)) (aCons (oV (d2 mulA (oPl 3) (oPl 4))) (aCons (oV (dC (.int 39))) aNil)))))) (gNm 18)
    (dIte (tAndD (dTru M_bool (oV (dCall F_judge_misses (aCons (oPl 7) (aCons (oPl 6) (aCons (oPl 18) aNil)))))) (tNotD (dTru M_bool (oV (dCall F_judge_misses (aCons (oPl 7) (aCons (oPl 6) (aCons (oV (d2 addD (oPl 18) (oV (dC (.int 1))))) aNil)))))))) (dRet (dC (.bl false))) (dEnd .nx)))
def S_law_14 : DSn := (dSet 19 (oV (dCall F_widest_looks (aCons (oPl 4) (aCons (oPl 5) (aCons (oPl 6) (aCons (oPl 5) aNil)))))))
def S_law_15 : DSn := (dIte (tOrD (dBl (d2 isND (oPl 19) (oV (dC .non)))) (tOrD (dBl (d2 ltD (oPl 19) (oV (dC (.int 1))))) (tOrD (tNotD (dTru M_bool (oV (dCall F_judge_rings (aCons (oV (dFz (oMake 3 F_Looksdd_initdd (aCons (oPl 19) (aCons (oPl 4) (aCons (oPl 5) aNil)))))) (aCons (oPl 6) (aCons (oPl 5) aNil))))))) (tAndD (dBl (d2 ltD (oPl 19) (oV (dC (.int 6))))) (dTru M_bool (oV (dCall F_judge_rings (aCons (oV (dFz (oMake 3 F_Looksdd_initdd (aCons (oV (d2 addD (oPl 19) (oV (dC (.int 1))))) (aCons (oPl 4) (aCons (oPl 5) aNil)))))) (aCons (oPl 6) (aCons (oPl 5) aNil)))))))))) (dRet (dC (.bl false))) (dEnd .nx))
def S_law_16 : DSn := (dSet 20 (oV (dCall F_judge_rings (aCons (oPl 7) (aCons (oPl 6) (aCons (oV (dC (.int 9))) aNil))))))
def S_law_17 : DSn := (dIte (tOrD (tNotD (dTru M_bool (oV (dMeth M_shows (oV (dFz (oMake 5 F_Lyingdd_initdd (aCons (oV (dFld fp_lengths (oPl 20))) aNil)))) (aCons (oPl 7) (aCons (oV (dC (.int 3))) (aCons (oV (dC (.int 9))) aNil))))))) (tOrD (tNotD (dTru M_bool (oV (dCall F_is_lengths (aCons (oV (dFld fp_lengths (oPl 20))) (aCons (oPl 6) aNil)))))) (tAndD (dTru M_bool (oV (dMeth M_shows (oV (dFz (oMake 7 F_Misseddd_initdd (aCons (oV (d2 mulA (oV (dTup (aCons (oV (dC (.int 9))) aNil))) (oPl 3))) aNil)))) (aCons (oPl 7) (aCons (oV (dC (.int 0))) (aCons (oPl 3) aNil)))))) (dBl (d2 eqD (oPl 4) (oV (dC (.int 1)))))))) (dRet (dC (.bl false))) (dEnd .nx))
def S_law_18 : DSn := (dFor (iRes rng1 (aCons (oV (dC (.int 5))) aNil)) (gNm 2)
    (dSeq S_law_1
    (dSeq S_law_2
    (dSeq S_law_3
    (dSeq S_law_4
    (dSeq S_law_5
    (dSeq S_law_6
    (dSeq S_law_7
    (dSeq S_law_8
    (dSeq S_law_9
    (dSeq S_law_10
    (dSeq S_law_11
    (dSeq S_law_12
    (dSeq S_law_13
    (dSeq S_law_14
    (dSeq S_law_15
    (dSeq S_law_16
    S_law_17)))))))))))))))))
def S_law_19 : DSn := (dPar [21, 22] (aCons (oV (dTup aNil)) (aCons (oV (dC (.int 0))) aNil)))
def S_law_20 : DSn := (dSet 23 (oV (dOr (d2 eqD (oPl 22) (oV (dC (.int 0)))) (dAnd (d2 ltD (oPl 22) (oV (dC (.int 9)))) (d2 eqD (oV (dCall F__law_next (aCons (oPl 1) (aCons (oV (dC (.int 2))) aNil)))) (oV (dC (.int 0))))))))
def S_law_21 : DSn := (dPar [21, 22] (aCons (oV (d2 addD (oPl 21) (oV (dTup (aCons (oV (dTup (aCons (oV (dIf (dTru M_bool (oPl 23)) (dC (.str "in")) (dC (.str "out")))) (aCons (oV (dC (.int 4))) aNil)))) aNil))))) (aCons (oV (d2 addD (oPl 22) (oV (dIf (dTru M_bool (oPl 23)) (dC (.int 1)) (dNeg (oV (dC (.int 1)))))))) aNil)))
def S_law_22 : DSn := (dFor (iRes rng1 (aCons (oV (dC (.int 20))) aNil)) (gNm 2)
    (dSeq S_law_20
    S_law_21))
def S_law_23 : DSn := (dSet 8 (oV (dCall F_lengths_behind (aCons (oV (dC (.str "heap"))) (aCons (oV (dC (.int 9))) (aCons (oPl 21) aNil))))))
def S_law_24 : DSn := (dSet 9 (oV (dCall F_rings_of (aCons (oV (dFz (oMake 3 F_Looksdd_initdd (aCons (oV (dC (.int 1))) (aCons (oV (dC (.int 1))) (aCons (oV (dC (.int 2))) aNil)))))) (aCons (oPl 8) aNil)))))
def S_law_25 : DSn := (dRet (dAnd (dCall F_is_lengths (aCons (oPl 8) (aCons (oV (dC (.int 1))) aNil))) (dAnd (d2 eqD (oPl 8) (oV (dCall F_lengths_behind (aCons (oV (dC (.str "row"))) (aCons (oV (dC (.int 9))) (aCons (oPl 21) aNil)))))) (dAnd (d2 eqD (oV (dCall F_least_room (aCons (oV (dC (.str "row"))) (aCons (oPl 21) aNil)))) (oV (dL maxD (aCons (oPl 8) aNil)))) (d2 eqD (oV (dBoolC M_bool (oV (dCall F_judge_moves (aCons (oV (dC (.str "row"))) (aCons (oV (dC (.int 2))) (aCons (oPl 21) aNil))))))) (oV (d2 eqD (oPl 9) (oV (dTup aNil)))))))))
def D_law : DSn :=
    (dSeq S_law_0
    (dSeq S_law_18
    (dSeq S_law_19
    (dSeq S_law_22
    (dSeq S_law_23
    (dSeq S_law_24
    S_law_25))))))
def F_law : CF := cfOf 24 1 D_law
theorem sc_law : FnScope ["script", "draw", "turn", "every", "many", "above", "step", "looks", "lengths", "rings", "tick", "length", "cut", "one", "begin", "end", "low", "floor", "stretch", "wide", "told", "moves", "held", "put"] ["script"] (defScope s_law) := ⟨rfl, rfl, rfl, by decide +kernel, rfl, by decide +kernel, by decide +kernel⟩
theorem bd_law (Z : Ctx K mg) (cdv : Value) (A : Around) (outer : List PySem.Env) (s : Shared) (H : Hp) (E : XK) (hr : Room 21 (A.deeper (envOfC "law" (defScope s_law) s.heap.objs.size (He.ga K "law") cdv))) :
    DSs (cxOf (L2.CX P w) P w K mg base ["script", "draw", "turn", "every", "many", "above", "step", "looks", "lengths", "rings", "tick", "length", "cut", "one", "begin", "end", "low", "floor", "stretch", "wide", "told", "moves", "held", "put"] "law" (defScope s_law) (He.ga K "law") cdv A outer s H E) (TT K) (WB E) (defBody s_law) D_law := by
    have hN := sc_law.nd
    exact (dss_cons (ds_set (i := 1) hN (do_lst (da_cons (do_v (de_slice (do_pl (pv 0)) dp_none (dp_some de_int))) (da_cons (do_v de_int) (da_cons (do_v de_int) da_nil)))))
    (dss_cons (ds_for hp_cx rfl (di_range1 (da_cons (do_v de_int) da_nil) Z.n_range) (dg_name hN)
    (dss_cons (ds_parN rfl (nms_cons (i := 3) hN (nms_cons (i := 4) hN (nms_cons (i := 5) hN (nms_cons (i := 6) hN nms_nil)))) (da_cons (do_v (de_add (do_v de_int) (do_v (de_call px_cx ((ok__law_next Z).fok hr) Z.g__law_next (da_cons (do_pl (pv 1)) (da_cons (do_v de_int) da_nil)))))) (da_cons (do_v (de_add (do_v de_int) (do_v (de_call px_cx ((ok__law_next Z).fok hr) Z.g__law_next (da_cons (do_pl (pv 1)) (da_cons (do_v de_int) da_nil)))))) (da_cons (do_v (de_call px_cx ((ok__law_next Z).fok hr) Z.g__law_next (da_cons (do_pl (pv 1)) (da_cons (do_v de_int) da_nil)))) (da_cons (do_v (de_call px_cx ((ok__law_next Z).fok hr) Z.g__law_next (da_cons (do_pl (pv 1)) (da_cons (do_v de_int) da_nil)))) da_nil)))))
    (dss_cons (ds_parN rfl (nms_cons (i := 7) hN (nms_cons (i := 8) hN nms_nil)) (da_cons (do_v (de_o (do_make px_cx ((ok_Looksdd_initdd Z).kok Z.mk_Looks hr) Z.g_Looks (da_cons (do_pl (pv 3)) (da_cons (do_pl (pv 4)) (da_cons (do_pl (pv 5)) da_nil)))))) (da_cons (do_v (de_call px_cx ((ok__law_lengths Z).fok hr) Z.g__law_lengths (da_cons (do_pl (pv 1)) (da_cons (do_v (de_add (do_v de_int) (do_v (de_call px_cx ((ok__law_next Z).fok hr) Z.g__law_next (da_cons (do_pl (pv 1)) (da_cons (do_v de_int) da_nil)))))) (da_cons (do_pl (pv 6)) da_nil))))) da_nil)))
    (dss_cons (ds_set (i := 9) hN (do_v (de_call px_cx ((ok_rings_of Z).fok hr) Z.g_rings_of (da_cons (do_pl (pv 7)) (da_cons (do_pl (pv 8)) da_nil)))))
    (dss_cons (ds_if (dt_w (dw_or (dt_w (dw_and (dt_cmp s_gt op_gt (do_pl (pv 4)) (do_v de_int)) (dw_and1 (dt_val (de_callB snd_any (cr_any rfl) (da_cons (do_lc (own := [("tick", 10)]) rfl hN (by kernel_rfl) (by decide) (di_seq (de_name (pv 9))) (fun _ _ _ _ _ => (dg_name hN)) (fun _ _ _ _ _ => dts_nil) (fun _ _ _ _ _ => (de_cmp s_in (op_notInA (u65 hr)) (do_pl (pv 10)) (do_v (de_call psx0 ((ok_rings_of Z).fok hr) Z.g_rings_of (da_cons (do_v (de_o (do_make psx0 ((ok_Looksdd_initdd Z).kok Z.mk_Looks hr) Z.g_Looks (da_cons (do_pl (pv 3)) (da_cons (do_v (de_sub (do_pl (pv 4)) (do_v de_int))) (da_cons (do_pl (pv 5)) da_nil)))))) (da_cons (do_pl (pv 8)) da_nil))))))) da_nil) Z.n_any boot_any))))) (dw_or (dt_w (dw_and (dt_cmp s_gt op_gt (do_pl (pv 5)) (do_v de_int)) (dw_and1 (dt_val (de_callB snd_any (cr_any rfl) (da_cons (do_lc (own := [("tick", 10)]) rfl hN (by kernel_rfl) (by decide) (di_seq (de_name (pv 9))) (fun _ _ _ _ _ => (dg_name hN)) (fun _ _ _ _ _ => dts_nil) (fun _ _ _ _ _ => (de_cmp s_in (op_notInA (u65 hr)) (do_pl (pv 10)) (do_v (de_call psx0 ((ok_rings_of Z).fok hr) Z.g_rings_of (da_cons (do_v (de_o (do_make psx0 ((ok_Looksdd_initdd Z).kok Z.mk_Looks hr) Z.g_Looks (da_cons (do_pl (pv 3)) (da_cons (do_pl (pv 4)) (da_cons (do_v (de_sub (do_pl (pv 5)) (do_v de_int))) da_nil)))))) (da_cons (do_pl (pv 8)) da_nil))))))) da_nil) Z.n_any boot_any))))) (dw_or1 (dt_val (de_callB snd_any (cr_any rfl) (da_cons (do_lc (own := [("tick", 10)]) rfl hN (by kernel_rfl) (by decide) (di_seq (de_name (pv 9))) (fun _ _ _ _ _ => (dg_name hN)) (fun _ _ _ _ _ => dts_nil) (fun _ _ _ _ _ => (de_cmp s_in (op_notInA (u65 hr)) (do_pl (pv 10)) (do_v (de_call psx0 ((ok_rings_of Z).fok hr) Z.g_rings_of (da_cons (do_pl (pv 7)) (da_cons (do_v (de_callTy snd_tuple call_tupleP (da_cons (do_lc (own := [("length", 11)]) rfl hN (by kernel_rfl) (by decide) (di_seq (de_name (pv 8))) (fun _ _ _ _ _ => (dg_name hN)) (fun _ _ _ _ _ => dts_nil) (fun _ _ _ _ _ => (de_callB snd_minS (call_minS rfl) (da_cons (do_lst (da_cons (do_v de_int) (da_cons (do_v (de_add (do_pl (pv 11)) (do_v de_int))) da_nil))) da_nil) Z.n_min boot_min))) da_nil) Z.n_tuple boot_tuple)) da_nil))))))) da_nil) Z.n_any boot_any)))))) (dss_one (ds_ret de_bl)) dss_nil)
    (dss_cons (ds_set (i := 12) hN (do_v (de_add (do_v de_int) (do_v (de_call px_cx ((ok__law_next Z).fok hr) Z.g__law_next (da_cons (do_pl (pv 1)) (da_cons (do_v (de_callB snd_len call_len2 (da_cons (do_pl (pv 8)) da_nil) Z.n_len boot_len)) da_nil)))))))
    (dss_cons (ds_if (dt_w (dw_or (dt_cmp s_ne (op_neD hr.units) (do_v (de_call px_cx ((ok_rings_of Z).fok hr) Z.g_rings_of (da_cons (do_pl (pv 7)) (da_cons (do_v (de_slice (do_pl (pv 8)) dp_none (dp_some (de_name (pv 12))))) da_nil)))) (do_v (de_callTy snd_tuple call_tupleP (da_cons (do_lc (own := [("tick", 10)]) rfl hN (by kernel_rfl) (by decide) (di_seq (de_name (pv 9))) (fun _ _ _ _ _ => (dg_name hN)) (fun _ _ _ _ _ => (dts_one (dt_cmp s_lt op_lt (do_pl (pv 10)) (do_pl (pv 12))))) (fun _ _ _ _ _ => (de_name (pv 10)))) da_nil) Z.n_tuple boot_tuple))) (dw_or (dt_cmp s_ne (op_neD hr.units) (do_v (de_call px_cx ((ok_rings_of Z).fok hr) Z.g_rings_of (da_cons (do_pl (pv 7)) (da_cons (do_v (de_add (do_v (de_mul (do_v (de_tup (da_cons (do_v de_int) da_nil))) (do_v (de_mul (do_v de_int) (do_pl (pv 3)))))) (do_pl (pv 8)))) da_nil)))) (do_v (de_callTy snd_tuple call_tupleP (da_cons (do_lc (own := [("tick", 10)]) rfl hN (by kernel_rfl) (by decide) (di_seq (de_name (pv 9))) (fun _ _ _ _ _ => (dg_name hN)) (fun _ _ _ _ _ => dts_nil) (fun _ _ _ _ _ => (de_add (do_pl (pv 10)) (do_v (de_mul (do_v de_int) (do_pl (pv 3))))))) da_nil) Z.n_tuple boot_tuple))) (dw_or1 (dt_not (dt_val (de_callB snd_all (cr_all rfl) (da_cons (do_lc (own := [("tick", 10)]) rfl hN (by kernel_rfl) (by decide) (di_seq (de_name (pv 9))) (fun _ _ _ _ _ => (dg_name hN)) (fun _ _ _ _ _ => dts_nil) (fun _ _ _ _ _ => (de_and (de_cmp s_eq (op_eqD hr.units) (do_v (de_sub (do_pl (pv 10)) (do_v (de_mul (do_pl (pv 3)) (do_v (de_fdiv (do_pl (pv 10)) (do_pl (pv 3)))))))) (do_v de_int)) (de_one (de_cmp s_ge op_ge (do_pl (pv 10)) (do_v (de_meth0 psx0 (mok_of hr (rows_span Z) some_span) (do_pl (pv 7))))))))) da_nil) Z.n_all boot_all))))))) (dss_one (ds_ret de_bl)) dss_nil)
    (dss_cons (ds_set (i := 13) hN (do_v (de_call px_cx ((ok_rings_of Z).fok hr) Z.g_rings_of (da_cons (do_v (de_o (do_make px_cx ((ok_Looksdd_initdd Z).kok Z.mk_Looks hr) Z.g_Looks (da_cons (do_v de_int) (da_cons (do_v de_int) (da_cons (do_pl (pv 5)) da_nil)))))) (da_cons (do_pl (pv 8)) da_nil)))))
    (dss_cons (ds_if (dt_w (dw_or (dt_cmp s_ne (op_neD hr.units) (do_pl (pv 13)) (do_v (de_callTy snd_tuple call_tupleP (da_cons (do_v (de_callBV snd_sumL (call_sumLC rfl) (da_cons (do_v (de_o (do_lc (own := [("begin", 14), ("end", 15)]) rfl hN (by kernel_rfl) (by decide) (di_seq (de_call px_cx ((ok_stretches_above Z).fok hr) Z.g_stretches_above (da_cons (do_pl (pv 8)) (da_cons (do_pl (pv 5)) da_nil)))) (fun _ _ _ _ _ => (dg_tup rfl (dgs_cons (dg_name hN) (dgs_cons (dg_name hN) dgs_nil)) (takes_cons (takes_cons takes_nil)))) (fun _ _ _ _ _ => dts_nil) (fun _ _ _ _ _ => (de_o (do_lc (own := [("tick", 10)]) rfl hN (by kernel_rfl) (by decide) (di_range2 (da_cons (do_pl (pv 14)) (da_cons (do_pl (pv 15)) da_nil)) Z.n_range) (fun _ _ _ _ _ => (dg_name hN)) (fun _ _ _ _ _ => dts_nil) (fun _ _ _ _ _ => (de_name (pv 10))))))))) (da_cons (do_v (de_lst da_nil)) da_nil)) Z.n_sum boot_sum)) da_nil) Z.n_tuple boot_tuple))) (dw_or1 (dt_val (de_callB snd_any (cr_any rfl) (da_cons (do_lc (own := [("tick", 10)]) rfl hN (by kernel_rfl) (by decide) (di_seq (de_name (pv 9))) (fun _ _ _ _ _ => (dg_name hN)) (fun _ _ _ _ _ => dts_nil) (fun _ _ _ _ _ => (de_cmp s_in (op_notInA (u65 hr)) (do_pl (pv 10)) (do_pl (pv 13))))) da_nil) Z.n_any boot_any))))) (dss_one (ds_ret de_bl)) dss_nil)
    (dss_cons (ds_for hp_cx rfl (di_seq (de_name (pv 9))) (dg_name hN)
    (dss_cons (ds_set (i := 16) hN (do_v (de_callB snd_minS (call_minS rfl) (da_cons (do_v (de_slice (do_pl (pv 8)) (dp_some (de_sub (do_pl (pv 10)) (do_v (de_meth0 px_cx (mok_of hr (rows_span Z) some_span) (do_pl (pv 7)))))) (dp_some (de_add (do_pl (pv 10)) (do_v de_int))))) da_nil) Z.n_min boot_min)))
    (dss_one (ds_if (dt_w (dw_or (dt_cmp s_lt op_lt (do_pl (pv 16)) (do_v (de_call px_cx ((ok_least_between Z).fok hr) Z.g_least_between (da_cons (do_pl (pv 7)) (da_cons (do_pl (pv 6)) da_nil))))) (dw_or (dt_tru (bok_of hr (rows_bool Z)) (do_v (de_call px_cx ((ok_is_true_ring Z).fok hr) Z.g_is_true_ring (da_cons (do_pl (pv 7)) (da_cons (do_pl (pv 8)) (da_cons (do_pl (pv 10)) (da_cons (do_pl (pv 16)) da_nil))))))) (dw_or1 (dt_w (dw_and (dt_cmp s_gt op_gt (do_pl (pv 16)) (do_v de_int)) (dw_and1 (dt_not (dt_tru (bok_of hr (rows_bool Z)) (do_v (de_call px_cx ((ok_is_true_ring Z).fok hr) Z.g_is_true_ring (da_cons (do_pl (pv 7)) (da_cons (do_pl (pv 8)) (da_cons (do_pl (pv 10)) (da_cons (do_v (de_sub (do_pl (pv 16)) (do_v de_int))) da_nil))))))))))))))) (dss_one (ds_ret de_bl)) dss_nil))))
    (dss_cons (ds_for hp_cx rfl (di_seq (de_call px_cx ((ok_stretches_above Z).fok hr) Z.g_stretches_above (da_cons (do_pl (pv 8)) (da_cons (do_pl (pv 5)) da_nil)))) (dg_tup rfl (dgs_cons (dg_name hN) (dgs_cons (dg_name hN) dgs_nil)) (takes_cons (takes_cons takes_nil)))
    (dss_one (ds_if (dt_w (dw_or (dt_w (dw_and (dt_cmp s_ge op_ge (do_v (de_sub (do_pl (pv 15)) (do_pl (pv 14)))) (do_v (de_call px_cx ((ok_latest_ring Z).fok hr) Z.g_latest_ring (da_cons (do_pl (pv 7)) (da_cons (do_pl (pv 6)) da_nil))))) (dw_and1 (dt_not (dt_val (de_callB snd_any (cr_any rfl) (da_cons (do_lc (own := [("tick", 10)]) rfl hN (by kernel_rfl) (by decide) (di_seq (de_name (pv 9))) (fun _ _ _ _ _ => (dg_name hN)) (fun _ _ _ _ _ => dts_nil) (fun _ _ _ _ _ => (de_chain s_le op_le s_lt op_lt (do_pl (pv 14)) (do_pl (pv 10)) (do_pl (pv 15))))) da_nil) Z.n_any boot_any)))))) (dw_or1 (dt_w (dw_and (dt_cmp s_gt op_gt (do_v (de_sub (do_pl (pv 15)) (do_pl (pv 14)))) (do_v (de_call px_cx ((ok_latest_ring Z).fok hr) Z.g_latest_ring (da_cons (do_pl (pv 7)) (da_cons (do_pl (pv 6)) da_nil))))) (dw_and (dt_cmp s_gt op_gt (do_pl (pv 6)) (do_v de_int)) (dw_and1 (dt_not (dt_val (de_callB snd_any (cr_any rfl) (da_cons (do_lc (own := [("tick", 10)]) rfl hN (by kernel_rfl) (by decide) (di_seq (de_name (pv 9))) (fun _ _ _ _ _ => (dg_name hN)) (fun _ _ _ _ _ => dts_nil) (fun _ _ _ _ _ => (de_chain s_le op_le s_lt op_lt (do_pl (pv 14)) (do_pl (pv 10)) (do_v (de_add (do_pl (pv 14)) (do_v (de_call psx0 ((ok_latest_ring Z).fok hr) Z.g_latest_ring (da_cons (do_pl (pv 7)) (da_cons (do_pl (pv 6)) da_nil))))))))) da_nil) Z.n_any boot_any)))))))))) (dss_one (ds_ret de_bl)) dss_nil)))
    (dss_cons (ds_if (dt_w (dw_or (dt_cmp s_gt op_gt (do_v (de_call px_cx ((ok_least_between Z).fok hr) Z.g_least_between (da_cons (do_pl (pv 7)) (da_cons (do_pl (pv 6)) da_nil)))) (do_v (de_call px_cx ((ok_least_between Z).fok hr) Z.g_least_between (da_cons (do_v (de_o (do_make px_cx ((ok_Looksdd_initdd Z).kok Z.mk_Looks hr) Z.g_Looks (da_cons (do_pl (pv 3)) (da_cons (do_v de_int) (da_cons (do_pl (pv 5)) da_nil)))))) (da_cons (do_pl (pv 6)) da_nil))))) (dw_or (dt_w (dw_and (dt_cmp s_gt op_gt (do_pl (pv 6)) (do_v de_int)) (dw_and1 (dt_cmp s_gt op_gt (do_v (de_call px_cx ((ok_least_between Z).fok hr) Z.g_least_between (da_cons (do_pl (pv 7)) (da_cons (do_pl (pv 6)) da_nil)))) (do_v (de_call px_cx ((ok_least_between Z).fok hr) Z.g_least_between (da_cons (do_pl (pv 7)) (da_cons (do_v (de_sub (do_pl (pv 6)) (do_v de_int))) da_nil)))))))) (dw_or1 (dt_w (dw_and (dt_cmp s_gt op_gt (do_pl (pv 3)) (do_v de_int)) (dw_and1 (dt_cmp s_gt op_gt (do_v (de_call px_cx ((ok_least_between Z).fok hr) Z.g_least_between (da_cons (do_pl (pv 7)) (da_cons (do_pl (pv 6)) da_nil)))) (do_v (de_call px_cx ((ok_least_between Z).fok hr) Z.g_least_between (da_cons (do_v (de_o (do_make px_cx ((ok_Looksdd_initdd Z).kok Z.mk_Looks hr) Z.g_Looks (da_cons (do_v (de_sub (do_pl (pv 3)) (do_v de_int))) (da_cons (do_pl (pv 4)) (da_cons (do_pl (pv 5)) da_nil)))))) (da_cons (do_pl (pv 6)) da_nil)))))))))))) (dss_one (ds_ret de_bl)) dss_nil)
    (dss_cons (ds_for hp_cx rfl (di_range1 (da_cons (do_v de_int) da_nil) Z.n_range) (dg_name hN)
    (dss_one (ds_if (dt_w (dw_or (dt_w (dw_and (dt_tru (bok_of hr (rows_bool Z)) (do_v (de_call px_cx ((ok_judge_rings Z).fok hr) Z.g_judge_rings (da_cons (do_pl (pv 7)) (da_cons (do_pl (pv 6)) (da_cons (do_v (de_add (do_pl (pv 17)) (do_v de_int))) da_nil)))))) (dw_and1 (dt_not (dt_tru (bok_of hr (rows_bool Z)) (do_v (de_call px_cx ((ok_judge_rings Z).fok hr) Z.g_judge_rings (da_cons (do_pl (pv 7)) (da_cons (do_pl (pv 6)) (da_cons (do_pl (pv 17)) da_nil)))))))))) (dw_or1 (dt_w (dw_and (dt_cmp s_gt op_gt (do_pl (pv 6)) (do_v de_int)) (dw_and (dt_tru (bok_of hr (rows_bool Z)) (do_v (de_call px_cx ((ok_judge_rings Z).fok hr) Z.g_judge_rings (da_cons (do_pl (pv 7)) (da_cons (do_pl (pv 6)) (da_cons (do_pl (pv 17)) da_nil)))))) (dw_and1 (dt_not (dt_tru (bok_of hr (rows_bool Z)) (do_v (de_call px_cx ((ok_judge_rings Z).fok hr) Z.g_judge_rings (da_cons (do_pl (pv 7)) (da_cons (do_v (de_sub (do_pl (pv 6)) (do_v de_int))) (da_cons (do_pl (pv 17)) da_nil)))))))))))))) (dss_one (ds_ret de_bl)) dss_nil)))
    (dss_cons (ds_for hp_cx rfl (di_seq (de_tup (da_cons (do_v de_int) (da_cons (do_v (de_name (pv 3))) (da_cons (do_v (de_mul (do_pl (pv 3)) (do_pl (pv 4)))) (da_cons (do_v de_int) da_nil)))))) (dg_name hN)
    (dss_one (ds_if (dt_w (dw_and (dt_tru (bok_of hr (rows_bool Z)) (do_v (de_call px_cx ((ok_judge_misses Z).fok hr) Z.g_judge_misses (da_cons (do_pl (pv 7)) (da_cons (do_pl (pv 6)) (da_cons (do_pl (pv 18)) da_nil)))))) (dw_and1 (dt_not (dt_tru (bok_of hr (rows_bool Z)) (do_v (de_call px_cx ((ok_judge_misses Z).fok hr) Z.g_judge_misses (da_cons (do_pl (pv 7)) (da_cons (do_pl (pv 6)) (da_cons (do_v (de_add (do_pl (pv 18)) (do_v de_int))) da_nil)))))))))) (dss_one (ds_ret de_bl)) dss_nil)))
    (dss_cons (ds_set (i := 19) hN (do_v (de_call px_cx ((ok_widest_looks Z).fok hr) Z.g_widest_looks (da_cons (do_pl (pv 4)) (da_cons (do_pl (pv 5)) (da_cons (do_pl (pv 6)) (da_cons (do_pl (pv 5)) da_nil)))))))
    (dss_cons (ds_if (dt_w (dw_or (dt_cmp s_isN op_isN (do_pl (pv 19)) (do_v de_non)) (dw_or (dt_cmp s_lt op_lt (do_pl (pv 19)) (do_v de_int)) (dw_or (dt_not (dt_tru (bok_of hr (rows_bool Z)) (do_v (de_call px_cx ((ok_judge_rings Z).fok hr) Z.g_judge_rings (da_cons (do_v (de_o (do_make px_cx ((ok_Looksdd_initdd Z).kok Z.mk_Looks hr) Z.g_Looks (da_cons (do_pl (pv 19)) (da_cons (do_pl (pv 4)) (da_cons (do_pl (pv 5)) da_nil)))))) (da_cons (do_pl (pv 6)) (da_cons (do_pl (pv 5)) da_nil))))))) (dw_or1 (dt_w (dw_and (dt_cmp s_lt op_lt (do_pl (pv 19)) (do_v de_int)) (dw_and1 (dt_tru (bok_of hr (rows_bool Z)) (do_v (de_call px_cx ((ok_judge_rings Z).fok hr) Z.g_judge_rings (da_cons (do_v (de_o (do_make px_cx ((ok_Looksdd_initdd Z).kok Z.mk_Looks hr) Z.g_Looks (da_cons (do_v (de_add (do_pl (pv 19)) (do_v de_int))) (da_cons (do_pl (pv 4)) (da_cons (do_pl (pv 5)) da_nil)))))) (da_cons (do_pl (pv 6)) (da_cons (do_pl (pv 5)) da_nil)))))))))))))) (dss_one (ds_ret de_bl)) dss_nil)
    (dss_cons (ds_set (i := 20) hN (do_v (de_call px_cx ((ok_judge_rings Z).fok hr) Z.g_judge_rings (da_cons (do_pl (pv 7)) (da_cons (do_pl (pv 6)) (da_cons (do_v de_int) da_nil))))))
    (dss_one (ds_if (dt_w (dw_or (dt_not (dt_tru (bok_of hr (rows_bool Z)) (do_v (de_meth px_cx (mok_of hr (rows_shows Z) some_shows) (do_v (de_o (do_make px_cx ((ok_Lyingdd_initdd Z).kok Z.mk_Lying hr) Z.g_Lying (da_cons (do_v (de_fld Z.a_lengths (do_pl (pv 20)))) da_nil)))) (da_cons (do_pl (pv 7)) (da_cons (do_v de_int) (da_cons (do_v de_int) da_nil))))))) (dw_or (dt_not (dt_tru (bok_of hr (rows_bool Z)) (do_v (de_call px_cx ((ok_is_lengths Z).fok hr) Z.g_is_lengths (da_cons (do_v (de_fld Z.a_lengths (do_pl (pv 20)))) (da_cons (do_pl (pv 6)) da_nil)))))) (dw_or1 (dt_w (dw_and (dt_tru (bok_of hr (rows_bool Z)) (do_v (de_meth px_cx (mok_of hr (rows_shows Z) some_shows) (do_v (de_o (do_make px_cx ((ok_Misseddd_initdd Z).kok Z.mk_Missed hr) Z.g_Missed (da_cons (do_v (de_mul (do_v (de_tup (da_cons (do_v de_int) da_nil))) (do_pl (pv 3)))) da_nil)))) (da_cons (do_pl (pv 7)) (da_cons (do_v de_int) (da_cons (do_pl (pv 3)) da_nil)))))) (dw_and1 (dt_cmp s_eq (op_eqD hr.units) (do_pl (pv 4)) (do_v de_int))))))))) (dss_one (ds_ret de_bl)) dss_nil)))))))))))))))))))
    (dss_cons (ds_parN rfl (nms_cons (i := 21) hN (nms_cons (i := 22) hN nms_nil)) (da_cons (do_v (de_tup da_nil)) (da_cons (do_v de_int) da_nil)))
    (dss_cons (ds_for hp_cx rfl (di_range1 (da_cons (do_v de_int) da_nil) Z.n_range) (dg_name hN)
    (dss_cons (ds_set (i := 23) hN (do_v (de_or (de_cmp s_eq (op_eqD hr.units) (do_pl (pv 22)) (do_v de_int)) (de_one (de_and (de_cmp s_lt op_lt (do_pl (pv 22)) (do_v de_int)) (de_one (de_cmp s_eq (op_eqD hr.units) (do_v (de_call px_cx ((ok__law_next Z).fok hr) Z.g__law_next (da_cons (do_pl (pv 1)) (da_cons (do_v de_int) da_nil)))) (do_v de_int))))))))
    (dss_one (ds_par2 (i := 21) (j := 22) rfl hN (da_cons (do_v (de_add (do_pl (pv 21)) (do_v (de_tup (da_cons (do_v (de_tup (da_cons (do_v (de_if (dt_tru (bok_of hr (rows_bool Z)) (do_pl (pv 23))) de_str de_str)) (da_cons (do_v de_int) da_nil)))) da_nil))))) (da_cons (do_v (de_add (do_pl (pv 22)) (do_v (de_if (dt_tru (bok_of hr (rows_bool Z)) (do_pl (pv 23))) de_int (de_neg (do_v de_int)))))) da_nil))))))
    (dss_cons (ds_set (i := 8) hN (do_v (de_call px_cx ((ok_lengths_behind Z).fok hr) Z.g_lengths_behind (da_cons (do_v de_str) (da_cons (do_v de_int) (da_cons (do_pl (pv 21)) da_nil))))))
    (dss_cons (ds_set (i := 9) hN (do_v (de_call px_cx ((ok_rings_of Z).fok hr) Z.g_rings_of (da_cons (do_v (de_o (do_make px_cx ((ok_Looksdd_initdd Z).kok Z.mk_Looks hr) Z.g_Looks (da_cons (do_v de_int) (da_cons (do_v de_int) (da_cons (do_v de_int) da_nil)))))) (da_cons (do_pl (pv 8)) da_nil)))))
    (dss_one (ds_ret (de_and (de_call px_cx ((ok_is_lengths Z).fok hr) Z.g_is_lengths (da_cons (do_pl (pv 8)) (da_cons (do_v de_int) da_nil))) (de_and (de_cmp s_eq (op_eqD hr.units) (do_pl (pv 8)) (do_v (de_call px_cx ((ok_lengths_behind Z).fok hr) Z.g_lengths_behind (da_cons (do_v de_str) (da_cons (do_v de_int) (da_cons (do_pl (pv 21)) da_nil)))))) (de_and (de_cmp s_eq (op_eqD hr.units) (do_v (de_call px_cx ((ok_least_room Z).fok hr) Z.g_least_room (da_cons (do_v de_str) (da_cons (do_pl (pv 21)) da_nil)))) (do_v (de_callB snd_maxS (call_maxS rfl) (da_cons (do_pl (pv 8)) da_nil) Z.n_max boot_max))) (de_one (de_cmp s_eq (op_eqD hr.units) (do_v (de_bool (bok_of (room_in hr) (rows_bool Z)) (do_v (de_call px_cx ((ok_judge_moves Z).fok hr) Z.g_judge_moves (da_cons (do_v de_str) (da_cons (do_v de_int) (da_cons (do_pl (pv 21)) da_nil))))) Z.n_bool)) (do_v (de_cmp s_eq (op_eqD hr.units) (do_pl (pv 9)) (do_v (de_tup da_nil)))))))))))))))))
theorem fd_law (Z : Ctx K mg) : ∃ fd, (∀ (s : Shared) (u : Value), BindsTo s fd ⟨[u], []⟩ [("script", u)]) ∧ ∀ base : Heap, FnOk P w K mg base (L2.CX P w) 22 (He.ga K "law") fd ["script"] (spOf K (TT K) 1 F_law) := by
  obtain ⟨fd, F⟩ := Z.f_law
  have b := FunD.bindsA (ps := ["script"]) F (fun _ _ _ _ _ _ us hl => match us, hl with | [_], _ => rfl)
  exact ⟨fd, fun s u => b s [u] rfl, fun base => fn_spec (k := 21) F sc_law fun cdv A outer s H E hr => bd_law Z cdv A outer s H E hr⟩
end
end A
end
section
/-! Zd 19: the end; what the head tells beyond He's facts. -/
namespace Zd
open PySem PySem.Spec PyProof.Rows L2
set_option autoImplicit false
theorem walk_w {l : PySem.W.OpenLaw} {n k : Nat} {q : Program} {loose : List Str} {XP : (Str → Option Value) → Heap → Prop} {YP : World → Heap → Prop} {d : DefRec} {x : Str} {CX : World → CXT}
    (hn : l.most = some n) (hn2 : n ≤ sizeLine) (hdf : d.params.defaults = []) (hr : Room k callerA)
    (hCX : ∀ (w : World) (H : Hp) (s : Shared) (e : Value) (s' : Shared), CX w [] H s (fun _ _ _ => False) e s' → False)
    (F : ∀ (w : World) (mg : Str → Option Value) (fa : Addr) (h : Heap), YP w h → h.Ns mainGlobals mg → mg d.name = some (.ref fa) →
      ∃ (K : PySem.W.Frag) (fd : FuncData) (sp : Sp), K.In h ∧ (∀ (s : Shared) (u : Value), BindsTo s fd ⟨[u], []⟩ [(x, u)]) ∧
        (∀ (H : Hp) (a : Addr) (ns : List Int), ns.length ≤ n → SqL K H a (ns.map V.int) → sp [.ref a] H (fun v _ => v = .bl true) fun _ _ _ => False) ∧
        ∀ base : Heap, K.In base → base.Ns mainGlobals mg → FnOk l.prog w K mg base (CX w) k fa fd [x] sp) :
    PySem.W.WalkO q loose XP YP l.row.toRowW d [] (fun f vs => PySem.call f vs) := by
  refine Att.attach_call hn hdf fun w s₀ s₁ mg mb fa o pm cd doc a vs ns Gg Yy h1 h2 h3 h4 h5 h6 h7 h8 => ?_
  obtain ⟨K, fd, sp, KX, hb, hsp, hF⟩ := F w mg fa _ Yy Gg.T.g h4
  refine law_call KX Gg.T.g Gg.T.b Gg.T.builtins Gg.T.nolimit h8 h5 h6 (Nat.le_trans h7 hn2) hr hF hb (fun H _ hS => hsp H a ns h7 hS) ?_
  exact fun H e s' => hCX w H s₁ e s'
theorem cx_out {P : Program} {w : World} (H : Hp) (s : Shared) (e : Value) (s' : Shared) (c : L2.CX P w [] H s (fun _ _ _ => False) e s') : False := by
  obtain ⟨_, _, _, _, _, _, _, _, _, _, _, _, z⟩ := c
  exact z
/-- the law's promise from its reading -/
theorem sp_law {K : PySem.W.Frag} {T : Tab} {F : CF} {H : Hp} {a : Addr} {ns : List Int} (hS : SqL K H a (ns.map V.int)) (h : ∃ outs, F [.val (.frz (ns.map D.int))] = .ok outs (.bl true)) :
    spOf K T 1 F [.ref a] H (fun v _ => v = .bl true) fun _ _ _ => False := by
  obtain ⟨outs, h⟩ := h
  refine ⟨rfl, H, [.val (.frz (ns.map D.int))], Same.refl _, ⟨?_, trivial⟩, fun i j t u o p b e => ?_, ?_⟩
  · show Rz K T H (.ref a) (.frz (ns.map D.int))
    rw [Rz]
    exact ⟨a, ns.map V.int, rfl, hS, rz_ints ns⟩
  · cases i <;> simp at e
  · rw [h]
    intro v G' H' r rz
    rw [Rz] at rz
    exact rz
/-! ### further facts -/
open He
def mk0B (x : Str) (K : PySem.W.Frag) : Bool := PySem.W.makesIn K (ga K x) && (eqO (PySem.W.findIn K (.ref (ga K x)) "__init__") (some (some (.builtin "object.__init__"))) && (decide (PySem.W.mroIn K (ga K x) (.type "object") = some true) && PySem.W.keepIn K (.ref (ga K x))))
theorem mk0_ok {x : Str} {K : PySem.W.Frag} (h : mk0B x K = true) : Mk00 K (ga K x) := by
  obtain ⟨h1, h⟩ := ba h
  obtain ⟨h2, h⟩ := ba h
  obtain ⟨h3, h4⟩ := ba h
  exact ⟨h1, eqO_ok h2, of_decide_eq_true h3, h4⟩
def iscB (x y : Str) (b : Bool) (K : PySem.W.Frag) : Bool := eqO (PySem.W.findIn K (.ref (ga K x)) "__class__") (some (some (.builtin "object.__class__"))) && (eqO (PySem.W.specialIn K (.builtin "object.__class__") "__get__") (some (some (.builtin "getset_descriptor.__get__"))) &&
  (decide (PySem.W.takesIn K (.builtin "object.__class__") = some true) && (decide (PySem.W.mroIn K (ga K x) (.type "object") = some true) && decide (PySem.W.kitOne K (.ref (ga K x)) (.ref (ga K y)) = some b))))
theorem isc_ok {T : Tab} {c c' : Nat} {x y : Str} {b : Bool} {K : PySem.W.Frag} (cl : Cls K (ga K x)) (h : iscB x y b K = true) (e1 : T.cls c = ga K x := by rfl) (e2 : T.cls c' = ga K y := by rfl) : IsC K T c c' b := by
  obtain ⟨h1, h⟩ := ba h
  obtain ⟨h2, h⟩ := ba h
  obtain ⟨h3, h⟩ := ba h
  obtain ⟨h4, h5⟩ := ba h
  exact ⟨by rw [e1]; exact cl, by rw [e1]; exact eqO_ok h1, eqO_ok h2, of_decide_eq_true h3, by rw [e1]; exact of_decide_eq_true h4, by rw [e1, e2]; exact of_decide_eq_true h5⟩
def dvD : D → Dv
  | .bl b => .bl b
  | .int i => .int i
  | .str s => .str s
  | _ => .non
def plainD : D → Bool
  | .non => true
  | .bl _ => true
  | .int _ => true
  | .str _ => true
  | _ => false
def tupZB (x : Str) (ds : List D) (K : PySem.W.Frag) : Bool := ds.all plainD && (match K.lookup (ga K x) with
  | some ⟨.type c, none, .seq its _, _⟩ => decide (c = "tuple") && (decide (its.size ≤ sizeLine) && relAll (ds.map fun d => (dvD d).v K) its.toList)
  | _ => false)
theorem rz_plain {K : PySem.W.Frag} {T : Tab} {G : Hp} : ∀ {ds : List D}, ds.all plainD = true → RzL K T G (ds.map fun d => (dvD d).v K) ds
  | [], _ => RzL.nil
  | d :: ds, h => by
    rw [List.all_cons, Bool.and_eq_true] at h
    refine RzL.cons ?_ (rz_plain h.2)
    cases d with
    | non => exact Rz.non_
    | bl b => exact Rz.bl_
    | int i => exact Rz.int_
    | str z => exact Rz.str_
    | _ => exact absurd h.1 (by simp [plainD])
theorem tupZ_ok {T : Tab} {x : Str} {ds : List D} {K : PySem.W.Frag} (h : tupZB x ds K = true) (G : Hp) : Rz K T G (.ref (ga K x)) (.tup ds) := by
  obtain ⟨hp, h⟩ := ba h
  cases q : K.lookup (ga K x) with
  | none => rw [q] at h; cases h
  | some o =>
    obtain ⟨oc, od, dt, osl⟩ := o
    rw [q] at h
    cases oc with
    | type c =>
      cases od with
      | none =>
        cases dt with
        | seq its n =>
          obtain ⟨h1, h2⟩ := ba (show (decide (c = "tuple") && (decide (its.size ≤ sizeLine) && relAll (ds.map fun d => (dvD d).v K) its.toList)) = true from h)
          obtain ⟨h3, h4⟩ := ba h2
          exact Rz.tup_ (.inr ⟨_, its, n, q, rfl, congrArg Value.type (of_decide_eq_true h1), rfl, of_decide_eq_true h3, relAll_ok h4⟩) (rz_plain hp)
        | _ => cases h
      | some a => cases dt <;> cases h
    | _ => cases od <;> cases dt <;> cases h
theorem ex_at {L : List (PySem.W.Frag → Bool)} {K : PySem.W.Frag} (c : (L.all fun f => f K) = true) (i : Nat) {f : PySem.W.Frag → Bool} (h : L[i]? = some f) : f K = true := List.all_eq_true.mp c f (List.mem_of_getElem? h)
end Zd
end
section
set_option maxHeartbeats 0
namespace A
open PySem PySem.Spec PyProof.Rows L2 Zd
set_option autoImplicit false
def dd_is_integer : He.DefD := ⟨("is_integer", none), "is_integer", "is_integer", defArgs s_is_integer, defBody s_is_integer, defScope s_is_integer, [], []⟩
def dd_is_number : He.DefD := ⟨("is_number", none), "is_number", "is_number", defArgs s_is_number, defBody s_is_number, defScope s_is_number, [], []⟩
def dd_is_row : He.DefD := ⟨("is_row", none), "is_row", "is_row", defArgs s_is_row, defBody s_is_row, defScope s_is_row, [], []⟩
def dd_Fitsdd_booldd : He.DefD := ⟨("Fits", some "__bool__"), "__bool__", "Fits.__bool__", defArgs s_Fitsdd_booldd, defBody s_Fitsdd_booldd, defScope s_Fitsdd_booldd, [], []⟩
def dd_Stuckdd_booldd : He.DefD := ⟨("Stuck", some "__bool__"), "__bool__", "Stuck.__bool__", defArgs s_Stuckdd_booldd, defBody s_Stuckdd_booldd, defScope s_Stuckdd_booldd, [], []⟩
def dd_Suredd_booldd : He.DefD := ⟨("Sure", some "__bool__"), "__bool__", "Sure.__bool__", defArgs s_Suredd_booldd, defBody s_Suredd_booldd, defScope s_Suredd_booldd, [], []⟩
def dd_Lyingdd_booldd : He.DefD := ⟨("Lying", some "__bool__"), "__bool__", "Lying.__bool__", defArgs s_Lyingdd_booldd, defBody s_Lyingdd_booldd, defScope s_Lyingdd_booldd, [], []⟩
def dd_Rungdd_booldd : He.DefD := ⟨("Rung", some "__bool__"), "__bool__", "Rung.__bool__", defArgs s_Rungdd_booldd, defBody s_Rungdd_booldd, defScope s_Rungdd_booldd, [], []⟩
def dd_Misseddd_booldd : He.DefD := ⟨("Missed", some "__bool__"), "__bool__", "Missed.__bool__", defArgs s_Misseddd_booldd, defBody s_Misseddd_booldd, defScope s_Misseddd_booldd, [], []⟩
def dd_check_letters : He.DefD := ⟨("check_letters", none), "check_letters", "check_letters", defArgs s_check_letters, defBody s_check_letters, defScope s_check_letters, [], []⟩
def dd_check_queue : He.DefD := ⟨("check_queue", none), "check_queue", "check_queue", defArgs s_check_queue, defBody s_check_queue, defScope s_check_queue, [], []⟩
def dd_Queuedd_initdd : He.DefD := ⟨("Queue", some "__init__"), "__init__", "Queue.__init__", defArgs s_Queuedd_initdd, defBody s_Queuedd_initdd, defScope s_Queuedd_initdd, [], []⟩
def dd_Queue_is_full : He.DefD := ⟨("Queue", some "is_full"), "is_full", "Queue.is_full", defArgs s_Queue_is_full, defBody s_Queue_is_full, defScope s_Queue_is_full, [], []⟩
def dd_Queue_nexts : He.DefD := ⟨("Queue", some "nexts"), "nexts", "Queue.nexts", defArgs s_Queue_nexts, defBody s_Queue_nexts, defScope s_Queue_nexts, [], []⟩
def dd_Queue_put : He.DefD := ⟨("Queue", some "put"), "put", "Queue.put", defArgs s_Queue_put, defBody s_Queue_put, defScope s_Queue_put, [], []⟩
def dd_Queue_take : He.DefD := ⟨("Queue", some "take"), "take", "Queue.take", defArgs s_Queue_take, defBody s_Queue_take, defScope s_Queue_take, [], []⟩
def dd_Stuckdd_initdd : He.DefD := ⟨("Stuck", some "__init__"), "__init__", "Stuck.__init__", defArgs s_Stuckdd_initdd, defBody s_Stuckdd_initdd, defScope s_Stuckdd_initdd, [], []⟩
def dd_is_queue_move : He.DefD := ⟨("is_queue_move", none), "is_queue_move", "is_queue_move", defArgs s_is_queue_move, defBody s_is_queue_move, defScope s_is_queue_move, [], []⟩
def dd_check_moves : He.DefD := ⟨("check_moves", none), "check_moves", "check_moves", defArgs s_check_moves, defBody s_check_moves, defScope s_check_moves, [], []⟩
def dd_judge_moves : He.DefD := ⟨("judge_moves", none), "judge_moves", "judge_moves", defArgs s_judge_moves, defBody s_judge_moves, defScope s_judge_moves, [], []⟩
def dd_Fits_shows : He.DefD := ⟨("Fits", some "shows"), "shows", "Fits.shows", defArgs s_Fits_shows, defBody s_Fits_shows, defScope s_Fits_shows, [], []⟩
def dd_Looksdd_initdd : He.DefD := ⟨("Looks", some "__init__"), "__init__", "Looks.__init__", defArgs s_Looksdd_initdd, defBody s_Looksdd_initdd, defScope s_Looksdd_initdd, [], []⟩
def dd_Looks_span : He.DefD := ⟨("Looks", some "span"), "span", "Looks.span", defArgs s_Looks_span, defBody s_Looks_span, defScope s_Looks_span, [], []⟩
def dd_kept_row : He.DefD := ⟨("kept_row", none), "kept_row", "kept_row", defArgs s_kept_row, defBody s_kept_row, defScope s_kept_row, [], []⟩
def dd_Lyingdd_initdd : He.DefD := ⟨("Lying", some "__init__"), "__init__", "Lying.__init__", defArgs s_Lyingdd_initdd, defBody s_Lyingdd_initdd, defScope s_Lyingdd_initdd, [], []⟩
def dd_check_looks : He.DefD := ⟨("check_looks", none), "check_looks", "check_looks", defArgs s_check_looks, defBody s_check_looks, defScope s_check_looks, [], []⟩
def dd_check_step : He.DefD := ⟨("check_step", none), "check_step", "check_step", defArgs s_check_step, defBody s_check_step, defScope s_check_step, [], []⟩
def dd_check_claim : He.DefD := ⟨("check_claim", none), "check_claim", "check_claim", defArgs s_check_claim, defBody s_check_claim, defScope s_check_claim, [], []⟩
def dd_is_lengths : He.DefD := ⟨("is_lengths", none), "is_lengths", "is_lengths", defArgs s_is_lengths, defBody s_is_lengths, defScope s_is_lengths, [], []⟩
def dd_check_lengths : He.DefD := ⟨("check_lengths", none), "check_lengths", "check_lengths", defArgs s_check_lengths, defBody s_check_lengths, defScope s_check_lengths, [], []⟩
def dd_rings_of : He.DefD := ⟨("rings_of", none), "rings_of", "rings_of", defArgs s_rings_of, defBody s_rings_of, defScope s_rings_of, [], []⟩
def dd_is_true_ring : He.DefD := ⟨("is_true_ring", none), "is_true_ring", "is_true_ring", defArgs s_is_true_ring, defBody s_is_true_ring, defScope s_is_true_ring, [], []⟩
def dd_Lying_shows : He.DefD := ⟨("Lying", some "shows"), "shows", "Lying.shows", defArgs s_Lying_shows, defBody s_Lying_shows, defScope s_Lying_shows, [], []⟩
def dd_Misseddd_initdd : He.DefD := ⟨("Missed", some "__init__"), "__init__", "Missed.__init__", defArgs s_Misseddd_initdd, defBody s_Misseddd_initdd, defScope s_Misseddd_initdd, [], []⟩
def dd_check_stretch : He.DefD := ⟨("check_stretch", none), "check_stretch", "check_stretch", defArgs s_check_stretch, defBody s_check_stretch, defScope s_check_stretch, [], []⟩
def dd_Missed_shows : He.DefD := ⟨("Missed", some "shows"), "shows", "Missed.shows", defArgs s_Missed_shows, defBody s_Missed_shows, defScope s_Missed_shows, [], []⟩
def dd_latest_ring : He.DefD := ⟨("latest_ring", none), "latest_ring", "latest_ring", defArgs s_latest_ring, defBody s_latest_ring, defScope s_latest_ring, [], []⟩
def dd_judge_misses : He.DefD := ⟨("judge_misses", none), "judge_misses", "judge_misses", defArgs s_judge_misses, defBody s_judge_misses, defScope s_judge_misses, [], []⟩
def dd_Rung_shows : He.DefD := ⟨("Rung", some "shows"), "shows", "Rung.shows", defArgs s_Rung_shows, defBody s_Rung_shows, defScope s_Rung_shows, [], []⟩
def dd_Stuck_shows : He.DefD := ⟨("Stuck", some "shows"), "shows", "Stuck.shows", defArgs s_Stuck_shows, defBody s_Stuck_shows, defScope s_Stuck_shows, [], []⟩
def dd_least_between : He.DefD := ⟨("least_between", none), "least_between", "least_between", defArgs s_least_between, defBody s_least_between, defScope s_least_between, [], []⟩
def dd_judge_rings : He.DefD := ⟨("judge_rings", none), "judge_rings", "judge_rings", defArgs s_judge_rings, defBody s_judge_rings, defScope s_judge_rings, [], []⟩
def dd_Sure_shows : He.DefD := ⟨("Sure", some "shows"), "shows", "Sure.shows", defArgs s_Sure_shows, defBody s_Sure_shows, defScope s_Sure_shows, [], []⟩
def dd__law_cell_at : He.DefD := ⟨("_law_cell_at", none), "_law_cell_at", "_law_cell_at", defArgs s__law_cell_at, defBody s__law_cell_at, defScope s__law_cell_at, [], []⟩
def dd__law_draw : He.DefD := ⟨("_law_draw", none), "_law_draw", "_law_draw", defArgs s__law_draw, defBody s__law_draw, defScope s__law_draw, [], []⟩
def dd__law_number : He.DefD := ⟨("_law_number", none), "_law_number", "_law_number", defArgs s__law_number, defBody s__law_number, defScope s__law_number, [], []⟩
def dd__law_next : He.DefD := ⟨("_law_next", none), "_law_next", "_law_next", defArgs s__law_next, defBody s__law_next, defScope s__law_next, [], []⟩
def dd__law_lengths : He.DefD := ⟨("_law_lengths", none), "_law_lengths", "_law_lengths", defArgs s__law_lengths, defBody s__law_lengths, defScope s__law_lengths, [], []⟩
def dd_least_room : He.DefD := ⟨("least_room", none), "least_room", "least_room", defArgs s_least_room, defBody s_least_room, defScope s_least_room, [], []⟩
def dd_lengths_behind : He.DefD := ⟨("lengths_behind", none), "lengths_behind", "lengths_behind", defArgs s_lengths_behind, defBody s_lengths_behind, defScope s_lengths_behind, [], []⟩
def dd_stretches_above : He.DefD := ⟨("stretches_above", none), "stretches_above", "stretches_above", defArgs s_stretches_above, defBody s_stretches_above, defScope s_stretches_above, [], []⟩
def dd_widest_looks : He.DefD := ⟨("widest_looks", none), "widest_looks", "widest_looks", defArgs s_widest_looks, defBody s_widest_looks, defScope s_widest_looks, [], []⟩
def dd_law : He.DefD := ⟨("law", none), "law", "law", defArgs s_law, defBody s_law, defScope s_law, [], []⟩
def fn0 : List He.DefD := [dd_is_integer, dd_is_number, dd_is_row, dd_Fitsdd_booldd, dd_Stuckdd_booldd, dd_Suredd_booldd, dd_Lyingdd_booldd, dd_Rungdd_booldd, dd_Misseddd_booldd, dd_check_letters, dd_check_queue, dd_Queuedd_initdd, dd_Queue_is_full, dd_Queue_nexts, dd_Queue_put, dd_Queue_take, dd_Stuckdd_initdd, dd_is_queue_move, dd_check_moves, dd_judge_moves, dd_Fits_shows, dd_Looksdd_initdd, dd_Looks_span, dd_kept_row, dd_Lyingdd_initdd, dd_check_looks, dd_check_step, dd_check_claim, dd_is_lengths, dd_check_lengths]
def fn1 : List He.DefD := [dd_rings_of, dd_is_true_ring, dd_Lying_shows, dd_Misseddd_initdd, dd_check_stretch, dd_Missed_shows, dd_latest_ring, dd_judge_misses, dd_Rung_shows, dd_Stuck_shows, dd_least_between, dd_judge_rings, dd_Sure_shows, dd__law_cell_at, dd__law_draw, dd__law_number, dd__law_next, dd__law_lengths, dd_least_room, dd_lengths_behind, dd_stretches_above, dd_widest_looks, dd_law]
def fn : List He.DefD := fn0 ++ fn1
def fa0 : List He.Fa := [.glo "is_integer", .glo "is_number", .glo "is_row", .glo "check_letters", .glo "check_queue", .glo "is_queue_move", .glo "check_moves", .glo "judge_moves", .glo "kept_row", .glo "check_looks", .glo "check_step", .glo "check_claim", .glo "is_lengths", .glo "check_lengths", .glo "rings_of", .glo "is_true_ring", .glo "check_stretch", .glo "latest_ring", .glo "judge_misses", .glo "least_between", .glo "judge_rings", .glo "_law_cell_at", .glo "_law_draw", .glo "_law_number", .glo "_law_next", .glo "_law_lengths", .glo "least_room", .glo "lengths_behind", .glo "stretches_above", .glo "widest_looks"]
def fa1 : List He.Fa := [.glo "law", .glo "Queue", .cls "Queue", .glo "Fits", .cls "Fits", .glo "Stuck", .cls "Stuck", .glo "Looks", .cls "Looks", .glo "Sure", .cls "Sure", .glo "Lying", .cls "Lying", .glo "Rung", .cls "Rung", .glo "Missed", .cls "Missed", .free "abs", .free "all", .free "any", .free "bool", .free "enumerate", .free "int", .free "isinstance", .free "len", .free "list", .free "max", .free "min", .free "range", .free "set"]
def fa2 : List He.Fa := [.free "sorted", .free "str", .free "sum", .free "tuple", .free "zip", .glo "KINDS", .int "MOST_MOVES" 40, .int "MOST_ROOM" 9, .int "MOST_STRETCH" 40, .int "MOST_TICKS" 80, .noat "Looks" "above", .noat "Looks" "every", .noat "Queue" "kind", .noat "Lying" "lengths", .noat "Missed" "lengths", .noat "Queue" "letters", .noat "Looks" "many", .noat "Stuck" "place", .noat "Queue" "room", .noat "Stuck" "why", .mkr "Queue", .mkr "Stuck", .mkr "Looks", .mkr "Lying", .mkr "Missed", .meth "Fits" "__bool__", .meth "Stuck" "__bool__", .meth "Sure" "__bool__", .meth "Lying" "__bool__", .meth "Rung" "__bool__"]
def fa3 : List He.Fa := [.meth "Missed" "__bool__", .meth "Queue" "is_full", .meth "Queue" "nexts", .meth "Queue" "put", .meth "Fits" "shows", .meth "Stuck" "shows", .meth "Sure" "shows", .meth "Lying" "shows", .meth "Rung" "shows", .meth "Missed" "shows", .meth "Looks" "span", .meth "Queue" "take"]
def fa : List He.Fa := fa0 ++ fa1 ++ fa2 ++ fa3
def tupB_KINDS : PySem.W.Frag → Bool := tupZB "KINDS" vL_KINDS
def exL : List (PySem.W.Frag → Bool) := [mk0B "Fits", mk0B "Sure", mk0B "Rung", tupB_KINDS, iscB "Looks" "Looks" true]
def ex (K : PySem.W.Frag) : Bool := exL.all fun f => f K
abbrev R : PySem.W.OpenRow := PySem.W.OpenLaw.row PySem.Challenge.rw_neverlies_k94_looks_tie
abbrev hk : PySem.W.Hook := He.hookX 5 fa fn [] [] ex
def ob (s : PySem.W.SharedT) : He.AlX := He.obsX 5 fa fn [] [] ex (HandSHeadRun.getT s)
theorem ob_eq (s : PySem.W.SharedT) : ob s = hk.obs s.abs := He.obsX_eq (HandSHeadRun.getT_eq s)
def loose0 : List Str := ["LieError", "BadPart", "is_integer", "is_row", "kept_row", "is_number", "KINDS", "MOST_ROOM", "MOST_MOVES", "Queue", "check_queue", "check_letters", "is_queue_move", "check_moves", "Fits", "Stuck", "judge_moves", "least_room", "MOST_TICKS", "MOST_STRETCH", "Looks", "check_looks", "check_step", "is_lengths", "check_lengths", "rings_of", "stretches_above", "is_true_ring", "Sure", "Lying"]
def loose1 : List Str := ["check_claim", "least_between", "judge_rings", "Rung", "Missed", "check_stretch", "latest_ring", "judge_misses", "lengths_behind", "widest_looks", "_law_cell_at", "_law_draw", "_law_number", "_law_next", "_law_lengths"]
def loose : List Str := loose0 ++ loose1
theorem run (w : World) : HandSHeadRun.RunEq R (PySem.W.view R.prog [50]) hk ob 6000 loose w := by
  intro os
  kernel_rfl
theorem ctx_of {w : World} {h h0 : Heap} {K : PySem.W.Frag} {mg : Str → Option Value} (X : K.In h) (G : h.Ns mainGlobals mg) (c : He.SaysX fa fn [] [] ex w h0 K) : Ctx K mg := by
  have k_Queue := He.cls_ok (c.t.d.fact 32 (f := .cls "Queue") rfl)
  have k_Fits := He.cls_ok (c.t.d.fact 34 (f := .cls "Fits") rfl)
  have k_Stuck := He.cls_ok (c.t.d.fact 36 (f := .cls "Stuck") rfl)
  have k_Looks := He.cls_ok (c.t.d.fact 38 (f := .cls "Looks") rfl)
  have k_Sure := He.cls_ok (c.t.d.fact 40 (f := .cls "Sure") rfl)
  have k_Lying := He.cls_ok (c.t.d.fact 42 (f := .cls "Lying") rfl)
  have k_Rung := He.cls_ok (c.t.d.fact 44 (f := .cls "Rung") rfl)
  have k_Missed := He.cls_ok (c.t.d.fact 46 (f := .cls "Missed") rfl)
  exact ⟨He.glo_ok X G (c.t.d.fact 0 (f := .glo "is_integer") rfl),
    He.glo_ok X G (c.t.d.fact 1 (f := .glo "is_number") rfl),
    He.glo_ok X G (c.t.d.fact 2 (f := .glo "is_row") rfl),
    He.glo_ok X G (c.t.d.fact 3 (f := .glo "check_letters") rfl),
    He.glo_ok X G (c.t.d.fact 4 (f := .glo "check_queue") rfl),
    He.glo_ok X G (c.t.d.fact 5 (f := .glo "is_queue_move") rfl),
    He.glo_ok X G (c.t.d.fact 6 (f := .glo "check_moves") rfl),
    He.glo_ok X G (c.t.d.fact 7 (f := .glo "judge_moves") rfl),
    He.glo_ok X G (c.t.d.fact 8 (f := .glo "kept_row") rfl),
    He.glo_ok X G (c.t.d.fact 9 (f := .glo "check_looks") rfl),
    He.glo_ok X G (c.t.d.fact 10 (f := .glo "check_step") rfl),
    He.glo_ok X G (c.t.d.fact 11 (f := .glo "check_claim") rfl),
    He.glo_ok X G (c.t.d.fact 12 (f := .glo "is_lengths") rfl),
    He.glo_ok X G (c.t.d.fact 13 (f := .glo "check_lengths") rfl),
    He.glo_ok X G (c.t.d.fact 14 (f := .glo "rings_of") rfl),
    He.glo_ok X G (c.t.d.fact 15 (f := .glo "is_true_ring") rfl),
    He.glo_ok X G (c.t.d.fact 16 (f := .glo "check_stretch") rfl),
    He.glo_ok X G (c.t.d.fact 17 (f := .glo "latest_ring") rfl),
    He.glo_ok X G (c.t.d.fact 18 (f := .glo "judge_misses") rfl),
    He.glo_ok X G (c.t.d.fact 19 (f := .glo "least_between") rfl),
    He.glo_ok X G (c.t.d.fact 20 (f := .glo "judge_rings") rfl),
    He.glo_ok X G (c.t.d.fact 21 (f := .glo "_law_cell_at") rfl),
    He.glo_ok X G (c.t.d.fact 22 (f := .glo "_law_draw") rfl),
    He.glo_ok X G (c.t.d.fact 23 (f := .glo "_law_number") rfl),
    He.glo_ok X G (c.t.d.fact 24 (f := .glo "_law_next") rfl),
    He.glo_ok X G (c.t.d.fact 25 (f := .glo "_law_lengths") rfl),
    He.glo_ok X G (c.t.d.fact 26 (f := .glo "least_room") rfl),
    He.glo_ok X G (c.t.d.fact 27 (f := .glo "lengths_behind") rfl),
    He.glo_ok X G (c.t.d.fact 28 (f := .glo "stretches_above") rfl),
    He.glo_ok X G (c.t.d.fact 29 (f := .glo "widest_looks") rfl),
    He.glo_ok X G (c.t.d.fact 30 (f := .glo "law") rfl),
    He.glo_ok X G (c.t.d.fact 31 (f := .glo "Queue") rfl),
    k_Queue,
    He.glo_ok X G (c.t.d.fact 33 (f := .glo "Fits") rfl),
    k_Fits,
    He.glo_ok X G (c.t.d.fact 35 (f := .glo "Stuck") rfl),
    k_Stuck,
    He.glo_ok X G (c.t.d.fact 37 (f := .glo "Looks") rfl),
    k_Looks,
    He.glo_ok X G (c.t.d.fact 39 (f := .glo "Sure") rfl),
    k_Sure,
    He.glo_ok X G (c.t.d.fact 41 (f := .glo "Lying") rfl),
    k_Lying,
    He.glo_ok X G (c.t.d.fact 43 (f := .glo "Rung") rfl),
    k_Rung,
    He.glo_ok X G (c.t.d.fact 45 (f := .glo "Missed") rfl),
    k_Missed,
    He.free_ok X G (c.t.d.fact 47 (f := .free "abs") rfl),
    He.free_ok X G (c.t.d.fact 48 (f := .free "all") rfl),
    He.free_ok X G (c.t.d.fact 49 (f := .free "any") rfl),
    He.free_ok X G (c.t.d.fact 50 (f := .free "bool") rfl),
    He.free_ok X G (c.t.d.fact 51 (f := .free "enumerate") rfl),
    He.free_ok X G (c.t.d.fact 52 (f := .free "int") rfl),
    He.free_ok X G (c.t.d.fact 53 (f := .free "isinstance") rfl),
    He.free_ok X G (c.t.d.fact 54 (f := .free "len") rfl),
    He.free_ok X G (c.t.d.fact 55 (f := .free "list") rfl),
    He.free_ok X G (c.t.d.fact 56 (f := .free "max") rfl),
    He.free_ok X G (c.t.d.fact 57 (f := .free "min") rfl),
    He.free_ok X G (c.t.d.fact 58 (f := .free "range") rfl),
    He.free_ok X G (c.t.d.fact 59 (f := .free "set") rfl),
    He.free_ok X G (c.t.d.fact 60 (f := .free "sorted") rfl),
    He.free_ok X G (c.t.d.fact 61 (f := .free "str") rfl),
    He.free_ok X G (c.t.d.fact 62 (f := .free "sum") rfl),
    He.free_ok X G (c.t.d.fact 63 (f := .free "tuple") rfl),
    He.free_ok X G (c.t.d.fact 64 (f := .free "zip") rfl),
    ⟨He.glo_ok X G (c.t.d.fact 65 (f := .glo "KINDS") rfl), tupZ_ok (T := TT K) (x := "KINDS") (ds := vL_KINDS) (ex_at c.more 3 rfl)⟩,
    He.int_ok X G (c.t.d.fact 66 (f := .int "MOST_MOVES" 40) rfl),
    He.int_ok X G (c.t.d.fact 67 (f := .int "MOST_ROOM" 9) rfl),
    He.int_ok X G (c.t.d.fact 68 (f := .int "MOST_STRETCH" 40) rfl),
    He.int_ok X G (c.t.d.fact 69 (f := .int "MOST_TICKS" 80) rfl),
    He.noat_ok (c.t.d.fact 70 (f := .noat "Looks" "above") rfl),
    He.noat_ok (c.t.d.fact 71 (f := .noat "Looks" "every") rfl),
    He.noat_ok (c.t.d.fact 72 (f := .noat "Queue" "kind") rfl),
    He.noat_ok (c.t.d.fact 73 (f := .noat "Lying" "lengths") rfl),
    He.noat_ok (c.t.d.fact 74 (f := .noat "Missed" "lengths") rfl),
    He.noat_ok (c.t.d.fact 75 (f := .noat "Queue" "letters") rfl),
    He.noat_ok (c.t.d.fact 76 (f := .noat "Looks" "many") rfl),
    He.noat_ok (c.t.d.fact 77 (f := .noat "Stuck" "place") rfl),
    He.noat_ok (c.t.d.fact 78 (f := .noat "Queue" "room") rfl),
    He.noat_ok (c.t.d.fact 79 (f := .noat "Stuck" "why") rfl),
    He.mkr_ok (c.t.d.fact 80 (f := .mkr "Queue") rfl),
    mk0_ok (ex_at c.more 0 rfl),
    He.mkr_ok (c.t.d.fact 81 (f := .mkr "Stuck") rfl),
    He.mkr_ok (c.t.d.fact 82 (f := .mkr "Looks") rfl),
    mk0_ok (ex_at c.more 1 rfl),
    He.mkr_ok (c.t.d.fact 83 (f := .mkr "Lying") rfl),
    mk0_ok (ex_at c.more 2 rfl),
    He.mkr_ok (c.t.d.fact 84 (f := .mkr "Missed") rfl),
    isc_ok (k_Looks) (ex_at c.more 4 rfl),
    He.meth_ok (c.t.d.fact 85 (f := .meth "Fits" "__bool__") rfl),
    He.meth_ok (c.t.d.fact 86 (f := .meth "Stuck" "__bool__") rfl),
    He.meth_ok (c.t.d.fact 87 (f := .meth "Sure" "__bool__") rfl),
    He.meth_ok (c.t.d.fact 88 (f := .meth "Lying" "__bool__") rfl),
    He.meth_ok (c.t.d.fact 89 (f := .meth "Rung" "__bool__") rfl),
    He.meth_ok (c.t.d.fact 90 (f := .meth "Missed" "__bool__") rfl),
    He.meth_ok (c.t.d.fact 91 (f := .meth "Queue" "is_full") rfl),
    He.meth_ok (c.t.d.fact 92 (f := .meth "Queue" "nexts") rfl),
    He.meth_ok (c.t.d.fact 93 (f := .meth "Queue" "put") rfl),
    He.meth_ok (c.t.d.fact 94 (f := .meth "Fits" "shows") rfl),
    He.meth_ok (c.t.d.fact 95 (f := .meth "Stuck" "shows") rfl),
    He.meth_ok (c.t.d.fact 96 (f := .meth "Sure" "shows") rfl),
    He.meth_ok (c.t.d.fact 97 (f := .meth "Lying" "shows") rfl),
    He.meth_ok (c.t.d.fact 98 (f := .meth "Rung" "shows") rfl),
    He.meth_ok (c.t.d.fact 99 (f := .meth "Missed" "shows") rfl),
    He.meth_ok (c.t.d.fact 100 (f := .meth "Looks" "span") rfl),
    He.meth_ok (c.t.d.fact 101 (f := .meth "Queue" "take") rfl),
    c.t.d.def_ 0 (d := dd_is_integer) rfl,
    c.t.d.def_ 1 (d := dd_is_number) rfl,
    c.t.d.def_ 2 (d := dd_is_row) rfl,
    c.t.d.def_ 3 (d := dd_Fitsdd_booldd) rfl,
    c.t.d.def_ 4 (d := dd_Stuckdd_booldd) rfl,
    c.t.d.def_ 5 (d := dd_Suredd_booldd) rfl,
    c.t.d.def_ 6 (d := dd_Lyingdd_booldd) rfl,
    c.t.d.def_ 7 (d := dd_Rungdd_booldd) rfl,
    c.t.d.def_ 8 (d := dd_Misseddd_booldd) rfl,
    c.t.d.def_ 9 (d := dd_check_letters) rfl,
    c.t.d.def_ 10 (d := dd_check_queue) rfl,
    c.t.d.def_ 11 (d := dd_Queuedd_initdd) rfl,
    c.t.d.def_ 12 (d := dd_Queue_is_full) rfl,
    c.t.d.def_ 13 (d := dd_Queue_nexts) rfl,
    c.t.d.def_ 14 (d := dd_Queue_put) rfl,
    c.t.d.def_ 15 (d := dd_Queue_take) rfl,
    c.t.d.def_ 16 (d := dd_Stuckdd_initdd) rfl,
    c.t.d.def_ 17 (d := dd_is_queue_move) rfl,
    c.t.d.def_ 18 (d := dd_check_moves) rfl,
    c.t.d.def_ 19 (d := dd_judge_moves) rfl,
    c.t.d.def_ 20 (d := dd_Fits_shows) rfl,
    c.t.d.def_ 21 (d := dd_Looksdd_initdd) rfl,
    c.t.d.def_ 22 (d := dd_Looks_span) rfl,
    c.t.d.def_ 23 (d := dd_kept_row) rfl,
    c.t.d.def_ 24 (d := dd_Lyingdd_initdd) rfl,
    c.t.d.def_ 25 (d := dd_check_looks) rfl,
    c.t.d.def_ 26 (d := dd_check_step) rfl,
    c.t.d.def_ 27 (d := dd_check_claim) rfl,
    c.t.d.def_ 28 (d := dd_is_lengths) rfl,
    c.t.d.def_ 29 (d := dd_check_lengths) rfl,
    c.t.d.def_ 30 (d := dd_rings_of) rfl,
    c.t.d.def_ 31 (d := dd_is_true_ring) rfl,
    c.t.d.def_ 32 (d := dd_Lying_shows) rfl,
    c.t.d.def_ 33 (d := dd_Misseddd_initdd) rfl,
    c.t.d.def_ 34 (d := dd_check_stretch) rfl,
    c.t.d.def_ 35 (d := dd_Missed_shows) rfl,
    c.t.d.def_ 36 (d := dd_latest_ring) rfl,
    c.t.d.def_ 37 (d := dd_judge_misses) rfl,
    c.t.d.def_ 38 (d := dd_Rung_shows) rfl,
    c.t.d.def_ 39 (d := dd_Stuck_shows) rfl,
    c.t.d.def_ 40 (d := dd_least_between) rfl,
    c.t.d.def_ 41 (d := dd_judge_rings) rfl,
    c.t.d.def_ 42 (d := dd_Sure_shows) rfl,
    c.t.d.def_ 43 (d := dd__law_cell_at) rfl,
    c.t.d.def_ 44 (d := dd__law_draw) rfl,
    c.t.d.def_ 45 (d := dd__law_number) rfl,
    c.t.d.def_ 46 (d := dd__law_next) rfl,
    c.t.d.def_ 47 (d := dd__law_lengths) rfl,
    c.t.d.def_ 48 (d := dd_least_room) rfl,
    c.t.d.def_ 49 (d := dd_lengths_behind) rfl,
    c.t.d.def_ 50 (d := dd_stretches_above) rfl,
    c.t.d.def_ 51 (d := dd_widest_looks) rfl,
    c.t.d.def_ 52 (d := dd_law) rfl⟩
theorem holds_of (hL : ∀ ns : List Int, ns.length ≤ 63 → ∃ outs, F_law [.val (.frz (ns.map D.int))] = .ok outs (.bl true)) : PySem.W.OpenRow.Holds R := by
  refine HandSHeadRun.head_any (r := R) (q := PySem.W.view R.prog [50]) (H := hk) (ob := ob) (M := 6000) (loose := loose) (d := HandSHeadRun.topDef R.prog 50) (kwd := []) ob_eq
    (by kernel_rfl) (fun s => by kernel_rfl) run (by kernel_rfl) (by kernel_rfl) (by kernel_rfl) (by rfl) (by first | assumption | decide +kernel) (by decide +kernel) ⟨rfl, rfl, rfl, rfl, rfl, by decide +kernel⟩ ?hw ?hc
  case hw => w_witness2
  case hc =>
    refine Zd.walk_w (l := PySem.Challenge.rw_neverlies_k94_looks_tie) (n := 63) (k := 22) (x := "script") (CX := fun w => L2.CX R.prog w) rfl (by decide) (by kernel_rfl) ⟨rfl, by decide, by decide⟩ (fun w => Zd.cx_out) ?F
    intro w mg fa h Y G hmg0
    obtain ⟨K, KX, c⟩ := Y
    have hmg : mg ("law" : PySem.Str) = some (.ref fa) := by
      have e : (HandSHeadRun.topDef R.prog 50).name = ("law" : PySem.Str) := by kernel_rfl
      rw [← e]
      exact hmg0
    have Z : Ctx K mg := ctx_of KX G c
    have e := hmg.symm.trans Z.g_law
    cases e
    obtain ⟨fd, hb, hF⟩ := fd_law (P := R.prog) (w := w) Z
    exact ⟨K, fd, spOf K (TT K) 1 F_law, KX, hb, fun H a ns hl hS => Zd.sp_law hS (hL ns hl), fun base _ _ => hF base⟩
end A
end
section
namespace A
open PySem Zd
set_option autoImplicit false
abbrev iv (i : Int) : B := .val (.int i)
abbrev tI (L : List Int) : D := .tup (L.map D.int)
abbrev LK (e m a : Int) : D := .ins 3 [.int e, .int m, .int a]
theorem bV_val (d : D) : bVal (.val d) = d := rfl
theorem bV_own (t : Nat) (o : OD) : bVal (.own t o) = o.toD := rfl
theorem tD_lst (xs : List D) : OD.toD (.lst xs) = .lst xs := rfl
theorem tD_ins (c : Nat) (xs : List D) : OD.toD (.ins c xs) = .ins c xs := rfl
theorem f_is_integer (i : Int) : F_is_integer [iv i] = .ok [none] (.bl true) := by
  simp [cfOf, startE, fin_, outsOf, retag, findTag, dRet, dSeq, dEnd, dNever, dIte, dIf, dDrop, dFld, dSet, toB, dC, dName, dBl, dNot, dAnd, dOr, tAndD, tOrD, tNotD, dTru, dBoolC, boolD, dIsi, dIsi2, dIsC, tyN, isN, d2, d3, oV, oPl, aNil, aCons, aStar, seqOf, argB, argsB, ownPl, nodupB, wb, wb1, dCall, dMeth, oMake, oMake0, dSetFld, res, resAll, bV_val, bV_own, tD_lst, tD_ins, vals, dL, dLV, dTup, dLst, oLst, sz, ofO, leD, ltD, gtD, geD, i0D, iD, truD, isSq, lenD, dFz, R.bind, dAsg, gTp, gsCons, gsNil, gNm, dPar, setAll, dAug, dSetIx, isOwn, dApp, dFor, iVals, iRes, iSeq, dSl, pNo, pSome, cutD, dNeg, fdivD, modD, powD, mulA, mulI, addD, absD, intD, max2D, min2D, max3D, min3D, isND, notND, F_is_integer, D_is_integer]
theorem f_is_number (i a b : Int) : F_is_number [iv i, iv a, iv b] = .ok [none, none, none] (.bl (decide (a ≤ i) && decide (i ≤ b))) := by
  simp [cfOf, startE, fin_, outsOf, retag, findTag, dRet, dSeq, dEnd, dNever, dIte, dIf, dDrop, dFld, dSet, toB, dC, dName, dBl, dNot, dAnd, dOr, tAndD, tOrD, tNotD, dTru, dBoolC, boolD, dIsi, dIsi2, dIsC, tyN, isN, d2, d3, oV, oPl, aNil, aCons, aStar, seqOf, argB, argsB, ownPl, nodupB, wb, wb1, dCall, dMeth, oMake, oMake0, dSetFld, res, resAll, bV_val, bV_own, tD_lst, tD_ins, vals, dL, dLV, dTup, dLst, oLst, sz, ofO, leD, ltD, gtD, geD, i0D, iD, truD, isSq, lenD, dFz, R.bind, dAsg, gTp, gsCons, gsNil, gNm, dPar, setAll, dAug, dSetIx, isOwn, dApp, dFor, iVals, iRes, iSeq, dSl, pNo, pSome, cutD, dNeg, fdivD, modD, powD, mulA, mulI, addD, absD, intD, max2D, min2D, max3D, min3D, isND, notND, F_is_number, D_is_number, f_is_integer]
  by_cases h : a ≤ i <;> simp [h]
theorem f_is_row_t (ds : List D) : F_is_row [.val (.tup ds)] = .ok [none] (.bl true) := by
  simp [cfOf, startE, fin_, outsOf, retag, findTag, dRet, dSeq, dEnd, dNever, dIte, dIf, dDrop, dFld, dSet, toB, dC, dName, dBl, dNot, dAnd, dOr, tAndD, tOrD, tNotD, dTru, dBoolC, boolD, dIsi, dIsi2, dIsC, tyN, isN, d2, d3, oV, oPl, aNil, aCons, aStar, seqOf, argB, argsB, ownPl, nodupB, wb, wb1, dCall, dMeth, oMake, oMake0, dSetFld, res, resAll, bV_val, bV_own, tD_lst, tD_ins, vals, dL, dLV, dTup, dLst, oLst, sz, ofO, leD, ltD, gtD, geD, i0D, iD, truD, isSq, lenD, dFz, R.bind, dAsg, gTp, gsCons, gsNil, gNm, dPar, setAll, dAug, dSetIx, isOwn, dApp, dFor, iVals, iRes, iSeq, dSl, pNo, pSome, cutD, dNeg, fdivD, modD, powD, mulA, mulI, addD, absD, intD, max2D, min2D, max3D, min3D, isND, notND, F_is_row, D_is_row]
theorem f_is_row_l (ds : List D) : F_is_row [.val (.lst ds)] = .ok [none] (.bl true) := by
  simp [cfOf, startE, fin_, outsOf, retag, findTag, dRet, dSeq, dEnd, dNever, dIte, dIf, dDrop, dFld, dSet, toB, dC, dName, dBl, dNot, dAnd, dOr, tAndD, tOrD, tNotD, dTru, dBoolC, boolD, dIsi, dIsi2, dIsC, tyN, isN, d2, d3, oV, oPl, aNil, aCons, aStar, seqOf, argB, argsB, ownPl, nodupB, wb, wb1, dCall, dMeth, oMake, oMake0, dSetFld, res, resAll, bV_val, bV_own, tD_lst, tD_ins, vals, dL, dLV, dTup, dLst, oLst, sz, ofO, leD, ltD, gtD, geD, i0D, iD, truD, isSq, lenD, dFz, R.bind, dAsg, gTp, gsCons, gsNil, gNm, dPar, setAll, dAug, dSetIx, isOwn, dApp, dFor, iVals, iRes, iSeq, dSl, pNo, pSome, cutD, dNeg, fdivD, modD, powD, mulA, mulI, addD, absD, intD, max2D, min2D, max3D, min3D, isND, notND, F_is_row, D_is_row]
theorem f_kept_row (ds : List D) : F_kept_row [.val (.tup ds)] = .ok [none] (.tup ds) := by
  simp [cfOf, startE, fin_, outsOf, retag, findTag, dRet, dSeq, dEnd, dNever, dIte, dIf, dDrop, dFld, dSet, toB, dC, dName, dBl, dNot, dAnd, dOr, tAndD, tOrD, tNotD, dTru, dBoolC, boolD, dIsi, dIsi2, dIsC, tyN, isN, d2, d3, oV, oPl, aNil, aCons, aStar, seqOf, argB, argsB, ownPl, nodupB, wb, wb1, dCall, dMeth, oMake, oMake0, dSetFld, res, resAll, bV_val, bV_own, tD_lst, tD_ins, vals, dL, dLV, dTup, dLst, oLst, sz, ofO, leD, ltD, gtD, geD, i0D, iD, truD, isSq, lenD, dFz, R.bind, dAsg, gTp, gsCons, gsNil, gNm, dPar, setAll, dAug, dSetIx, isOwn, dApp, dFor, iVals, iRes, iSeq, dSl, pNo, pSome, cutD, dNeg, fdivD, modD, powD, mulA, mulI, addD, absD, intD, max2D, min2D, max3D, min3D, isND, notND, F_kept_row, D_kept_row, f_is_row_t, tupleD]
theorem f_check_step {s : Int} (h0 : 0 ≤ s) (h1 : s ≤ 3) : F_check_step [iv s] = .ok [none] .non := by
  simp [cfOf, startE, fin_, outsOf, retag, findTag, dRet, dSeq, dEnd, dNever, dIte, dIf, dDrop, dFld, dSet, toB, dC, dName, dBl, dNot, dAnd, dOr, tAndD, tOrD, tNotD, dTru, dBoolC, boolD, dIsi, dIsi2, dIsC, tyN, isN, d2, d3, oV, oPl, aNil, aCons, aStar, seqOf, argB, argsB, ownPl, nodupB, wb, wb1, dCall, dMeth, oMake, oMake0, dSetFld, res, resAll, bV_val, bV_own, tD_lst, tD_ins, vals, dL, dLV, dTup, dLst, oLst, sz, ofO, leD, ltD, gtD, geD, i0D, iD, truD, isSq, lenD, dFz, R.bind, dAsg, gTp, gsCons, gsNil, gNm, dPar, setAll, dAug, dSetIx, isOwn, dApp, dFor, iVals, iRes, iSeq, dSl, pNo, pSome, cutD, dNeg, fdivD, modD, powD, mulA, mulI, addD, absD, intD, max2D, min2D, max3D, min3D, isND, notND, F_check_step, D_check_step, f_is_number, h0, h1]
theorem f_check_looks (xs : List D) : F_check_looks [.val (.ins 3 xs)] = .ok [none] .non := by
  simp [cfOf, startE, fin_, outsOf, retag, findTag, dRet, dSeq, dEnd, dNever, dIte, dIf, dDrop, dFld, dSet, toB, dC, dName, dBl, dNot, dAnd, dOr, tAndD, tOrD, tNotD, dTru, dBoolC, boolD, dIsi, dIsi2, dIsC, tyN, isN, d2, d3, oV, oPl, aNil, aCons, aStar, seqOf, argB, argsB, ownPl, nodupB, wb, wb1, dCall, dMeth, oMake, oMake0, dSetFld, res, resAll, bV_val, bV_own, tD_lst, tD_ins, vals, dL, dLV, dTup, dLst, oLst, sz, ofO, leD, ltD, gtD, geD, i0D, iD, truD, isSq, lenD, dFz, R.bind, dAsg, gTp, gsCons, gsNil, gNm, dPar, setAll, dAug, dSetIx, isOwn, dApp, dFor, iVals, iRes, iSeq, dSl, pNo, pSome, cutD, dNeg, fdivD, modD, powD, mulA, mulI, addD, absD, intD, max2D, min2D, max3D, min3D, isND, notND, F_check_looks, D_check_looks, iz_Looks]
theorem f_looks {e m a : Int} (h1 : 1 ≤ e) (h2 : e ≤ 6) (h3 : 1 ≤ m) (h4 : m ≤ 4) (h5 : 0 ≤ a) (h6 : a ≤ 8) (t : Nat) : F_Looksdd_initdd [.own t (.ins 3 []), iv e, iv m, iv a] = .ok [some (.ins 3 [.int e, .int m, .int a]), none, none, none] .non := by
  simp [cfOf, startE, fin_, outsOf, retag, findTag, dRet, dSeq, dEnd, dNever, dIte, dIf, dDrop, dFld, dSet, toB, dC, dName, dBl, dNot, dAnd, dOr, tAndD, tOrD, tNotD, dTru, dBoolC, boolD, dIsi, dIsi2, dIsC, tyN, isN, d2, d3, oV, oPl, aNil, aCons, aStar, seqOf, argB, argsB, ownPl, nodupB, wb, wb1, dCall, dMeth, oMake, oMake0, dSetFld, res, resAll, bV_val, bV_own, tD_lst, tD_ins, vals, dL, dLV, dTup, dLst, oLst, sz, ofO, leD, ltD, gtD, geD, i0D, iD, truD, isSq, lenD, dFz, R.bind, dAsg, gTp, gsCons, gsNil, gNm, dPar, setAll, dAug, dSetIx, isOwn, dApp, dFor, iVals, iRes, iSeq, dSl, pNo, pSome, cutD, dNeg, fdivD, modD, powD, mulA, mulI, addD, absD, intD, max2D, min2D, max3D, min3D, isND, notND, F_Looksdd_initdd, D_Looksdd_initdd, f_is_number, fl, fp_every, fp_many, fp_above, h1, h2, h3, h4, h5, h6]
theorem f_span {e m a : Int} (h1 : 1 ≤ e) (h2 : e ≤ 6) (h3 : 1 ≤ m) (h4 : m ≤ 4) : F_Looks_span [.val (LK e m a)] = .ok [none] (.int ((m - 1) * e)) := by
  have : small64 (m - 1) = true := by simp [small64]; omega
  simp [cfOf, startE, fin_, outsOf, retag, findTag, dRet, dSeq, dEnd, dNever, dIte, dIf, dDrop, dFld, dSet, toB, dC, dName, dBl, dNot, dAnd, dOr, tAndD, tOrD, tNotD, dTru, dBoolC, boolD, dIsi, dIsi2, dIsC, tyN, isN, d2, d3, oV, oPl, aNil, aCons, aStar, seqOf, argB, argsB, ownPl, nodupB, wb, wb1, dCall, dMeth, oMake, oMake0, dSetFld, res, resAll, bV_val, bV_own, tD_lst, tD_ins, vals, dL, dLV, dTup, dLst, oLst, sz, ofO, leD, ltD, gtD, geD, i0D, iD, truD, isSq, lenD, dFz, R.bind, dAsg, gTp, gsCons, gsNil, gNm, dPar, setAll, dAug, dSetIx, isOwn, dApp, dFor, iVals, iRes, iSeq, dSl, pNo, pSome, cutD, dNeg, fdivD, modD, powD, mulA, mulI, addD, absD, intD, max2D, min2D, max3D, min3D, isND, notND, F_Looks_span, D_Looks_span, fp_every, fp_many, fp_above, this]
def inR (lo hi x : Int) : Prop := lo ≤ x ∧ x ≤ hi
theorem lenI (L : List Int) : ((L.map D.int).length : Int) = (L.length : Int) := by simp
theorem loop_lengths : ∀ (L : List Int) (k : Nat) (x y : Option B) (s : D), (∀ z ∈ L, 0 ≤ z ∧ z ≤ 9) →
    ∃ x' y', fl (gTp (gsCons (gNm 1) (gsCons (gNm 2) gsNil))) (dIte (tNotD (dTru M_bool (oV (dCall F_is_number (aCons (oPl 2) (aCons (oV (dC (.int 0))) (aCons (oV (dC (.int 9))) aNil))))))) dNever (dEnd .nx)) (enumD k (L.map D.int)) [some (.val s), x, y] = .ok ([some (.val s), x', y'], .nx)
  | [], k, x, y, s, _ => ⟨x, y, by simp [cfOf, startE, fin_, outsOf, retag, findTag, dRet, dSeq, dEnd, dNever, dIte, dIf, dDrop, dFld, dSet, toB, dC, dName, dBl, dNot, dAnd, dOr, tAndD, tOrD, tNotD, dTru, dBoolC, boolD, dIsi, dIsi2, dIsC, tyN, isN, d2, d3, oV, oPl, aNil, aCons, aStar, seqOf, argB, argsB, ownPl, nodupB, wb, wb1, dCall, dMeth, oMake, oMake0, dSetFld, res, resAll, bV_val, bV_own, tD_lst, tD_ins, vals, dL, dLV, dTup, dLst, oLst, sz, ofO, leD, ltD, gtD, geD, i0D, iD, truD, isSq, lenD, dFz, R.bind, dAsg, gTp, gsCons, gsNil, gNm, dPar, setAll, dAug, dSetIx, isOwn, dApp, dFor, iVals, iRes, iSeq, dSl, pNo, pSome, cutD, dNeg, fdivD, modD, powD, mulA, mulI, addD, absD, intD, max2D, min2D, max3D, min3D, isND, notND, fl, enumD]⟩
  | z :: L, k, x, y, s, h => by
    obtain ⟨x', y', ih⟩ := loop_lengths L (k + 1) (some (.val (.int k))) (some (.val (.int z))) s (fun w hw => h w (List.mem_cons_of_mem _ hw))
    have hz := h z List.mem_cons_self
    refine ⟨x', y', ?_⟩
    rw [← ih]
    simp [cfOf, startE, fin_, outsOf, retag, findTag, dRet, dSeq, dEnd, dNever, dIte, dIf, dDrop, dFld, dSet, toB, dC, dName, dBl, dNot, dAnd, dOr, tAndD, tOrD, tNotD, dTru, dBoolC, boolD, dIsi, dIsi2, dIsC, tyN, isN, d2, d3, oV, oPl, aNil, aCons, aStar, seqOf, argB, argsB, ownPl, nodupB, wb, wb1, dCall, dMeth, oMake, oMake0, dSetFld, res, resAll, bV_val, bV_own, tD_lst, tD_ins, vals, dL, dLV, dTup, dLst, oLst, sz, ofO, leD, ltD, gtD, geD, i0D, iD, truD, isSq, lenD, dFz, R.bind, dAsg, gTp, gsCons, gsNil, gNm, dPar, setAll, dAug, dSetIx, isOwn, dApp, dFor, iVals, iRes, iSeq, dSl, pNo, pSome, cutD, dNeg, fdivD, modD, powD, mulA, mulI, addD, absD, intD, max2D, min2D, max3D, min3D, isND, notND, fl, enumD, f_is_number, hz.1, hz.2]
theorem f_check_lengths {L : List Int} (h1 : 1 ≤ L.length) (h2 : L.length ≤ 80) (h : ∀ z ∈ L, 0 ≤ z ∧ z ≤ 9) : F_check_lengths [.val (tI L)] = .ok [none] .non := by
  obtain ⟨x', y', e⟩ := loop_lengths L 0 none none (tI L) h
  have a1 : (1 : Int) ≤ L.length := by omega
  have a2 : (L.length : Int) ≤ 80 := by omega
  simp [cfOf, startE, fin_, outsOf, retag, findTag, dRet, dSeq, dEnd, dNever, dIte, dIf, dDrop, dFld, dSet, toB, dC, dName, dBl, dNot, dAnd, dOr, tAndD, tOrD, tNotD, dTru, dBoolC, boolD, dIsi, dIsi2, dIsC, tyN, isN, d2, d3, oV, oPl, aNil, aCons, aStar, seqOf, argB, argsB, ownPl, nodupB, wb, wb1, dCall, dMeth, oMake, oMake0, dSetFld, res, resAll, bV_val, bV_own, tD_lst, tD_ins, vals, dL, dLV, dTup, dLst, oLst, sz, ofO, leD, ltD, gtD, geD, i0D, iD, truD, isSq, lenD, dFz, R.bind, dAsg, gTp, gsCons, gsNil, gNm, dPar, setAll, dAug, dSetIx, isOwn, dApp, dFor, iVals, iRes, iSeq, dSl, pNo, pSome, cutD, dNeg, fdivD, modD, powD, mulA, mulI, addD, absD, intD, max2D, min2D, max3D, min3D, isND, notND, F_check_lengths, D_check_lengths, f_is_row_t, vv_MOST_TICKS, a1, a2, enum1]
  rw [e]
end A
end
section
namespace A
open PySem Zd
set_option autoImplicit false
/-! ### the law's draws -/
abbrev fI (L : List Int) : D := .lst (L.map D.int)
theorem ix_int {L : List Int} {k : Int} (h0 : 0 ≤ k) (h1 : k < L.length) : ∃ c : Int, ixD (fI L) (.int k) = some (.int c) := by
  have hk : k.toNat < L.length := by omega
  refine ⟨L[k.toNat], ?_⟩
  have a1 : k < ((L.map D.int).length : Int) := by simpa using h1
  simp [ixD, L2.atI, L2.ixN, h0, h1, hk]
theorem f_cell {L : List Int} {k : Int} (h0 : 0 ≤ k) : ∃ c : Int, F__law_cell_at [.val (fI L), iv k] = .ok [none, none] (.int c) := by
  by_cases h : k < L.length
  · obtain ⟨c, hc⟩ := ix_int (L := L) h0 h
    exact ⟨c, by simp [cfOf, startE, fin_, outsOf, retag, findTag, dRet, dSeq, dEnd, dNever, dIte, dIf, dDrop, dFld, dSet, toB, dC, dName, dBl, dNot, dAnd, dOr, tAndD, tOrD, tNotD, dTru, dBoolC, boolD, dIsi, dIsi2, dIsC, tyN, isN, d2, d3, oV, oPl, aNil, aCons, aStar, seqOf, argB, argsB, ownPl, nodupB, wb, wb1, dCall, dMeth, oMake, oMake0, dSetFld, res, resAll, bV_val, bV_own, tD_lst, tD_ins, vals, dL, dLV, dTup, dLst, oLst, sz, ofO, leD, ltD, gtD, geD, i0D, iD, truD, isSq, lenD, dFz, R.bind, dAsg, gTp, gsCons, gsNil, gNm, dPar, setAll, dAug, dSetIx, isOwn, dApp, dFor, iVals, iRes, iSeq, dSl, pNo, pSome, cutD, dNeg, fdivD, modD, powD, mulA, mulI, addD, absD, intD, max2D, min2D, max3D, min3D, isND, notND, F__law_cell_at, D__law_cell_at, h, hc]⟩
  · exact ⟨0, by simp [cfOf, startE, fin_, outsOf, retag, findTag, dRet, dSeq, dEnd, dNever, dIte, dIf, dDrop, dFld, dSet, toB, dC, dName, dBl, dNot, dAnd, dOr, tAndD, tOrD, tNotD, dTru, dBoolC, boolD, dIsi, dIsi2, dIsC, tyN, isN, d2, d3, oV, oPl, aNil, aCons, aStar, seqOf, argB, argsB, ownPl, nodupB, wb, wb1, dCall, dMeth, oMake, oMake0, dSetFld, res, resAll, bV_val, bV_own, tD_lst, tD_ins, vals, dL, dLV, dTup, dLst, oLst, sz, ofO, leD, ltD, gtD, geD, i0D, iD, truD, isSq, lenD, dFz, R.bind, dAsg, gTp, gsCons, gsNil, gNm, dPar, setAll, dAug, dSetIx, isOwn, dApp, dFor, iVals, iRes, iSeq, dSl, pNo, pSome, cutD, dNeg, fdivD, modD, powD, mulA, mulI, addD, absD, intD, max2D, min2D, max3D, min3D, isND, notND, F__law_cell_at, D__law_cell_at, h]⟩
theorem mod_lt {a b : Int} (h : 0 < b) : 0 ≤ a % b ∧ a % b < b := ⟨Int.emod_nonneg _ (by omega), Int.emod_lt_of_pos _ h⟩
def primes : List Int := [1000003, 1000033, 1000037, 1000039, 1000081, 1000099, 1000117, 1000121, 1000133, 1000151, 1000159, 1000171, 1000183, 1000187, 1000193, 1000199]
theorem ix_tI {L : List Int} {k : Int} (h0 : 0 ≤ k) (h1 : k < L.length) : ∃ c ∈ L, ixD (tI L) (.int k) = some (.int c) := by
  have hk : k.toNat < L.length := by omega
  refine ⟨L[k.toNat], List.getElem_mem hk, ?_⟩
  simp [ixD, L2.atI, L2.ixN, h0, h1, hk]
theorem ix_prime {k : Int} (h0 : 0 ≤ k) (h1 : k < 16) : ∃ c : Int, 0 < c ∧ ixD (.tup (primes.map D.int)) (.int k) = some (.int c) := by
  obtain ⟨c, hc, e⟩ := ix_tI (L := primes) h0 (by simpa [primes] using h1)
  have : ∀ x ∈ primes, (0 : Int) < x := by decide
  exact ⟨c, this c hc, e⟩
theorem s64 {a : Int} (h0 : -(2 ^ 64) < a) (h1 : a < 2 ^ 64) : small64 a = true := by simp [small64]; omega
theorem f_draw {c k b : Int} (hb : 0 < b) : ∃ r : Int, 0 ≤ r ∧ r < b ∧ F__law_draw [iv c, iv k, iv b] = .ok [none, none, none] (.int r) := by
  obtain ⟨p, hp, hx⟩ := ix_prime (mod_lt (a := k) (b := 16) (by omega)).1 (mod_lt (a := k) (b := 16) (by omega)).2
  have hx' : ixD (D.tup [D.int 1000003, D.int 1000033, D.int 1000037, D.int 1000039, D.int 1000081, D.int 1000099, D.int 1000117, D.int 1000121, D.int 1000133, D.int 1000151, D.int 1000159, D.int 1000171, D.int 1000183, D.int 1000187, D.int 1000193, D.int 1000199]) (D.int (k % 16)) = some (.int p) := hx
  refine ⟨(c * 48271 + k * 69621) % p % b, (mod_lt hb).1, (mod_lt hb).2, ?_⟩
  simp [cfOf, startE, fin_, outsOf, retag, findTag, dRet, dSeq, dEnd, dNever, dIte, dIf, dDrop, dFld, dSet, toB, dC, dName, dBl, dNot, dAnd, dOr, tAndD, tOrD, tNotD, dTru, dBoolC, boolD, dIsi, dIsi2, dIsC, tyN, isN, d2, d3, oV, oPl, aNil, aCons, aStar, seqOf, argB, argsB, ownPl, nodupB, wb, wb1, dCall, dMeth, oMake, oMake0, dSetFld, res, resAll, bV_val, bV_own, tD_lst, tD_ins, vals, dL, dLV, dTup, dLst, oLst, sz, ofO, leD, ltD, gtD, geD, i0D, iD, truD, isSq, lenD, dFz, R.bind, dAsg, gTp, gsCons, gsNil, gNm, dPar, setAll, dAug, dSetIx, isOwn, dApp, dFor, iVals, iRes, iSeq, dSl, pNo, pSome, cutD, dNeg, fdivD, modD, powD, mulA, mulI, addD, absD, intD, max2D, min2D, max3D, min3D, isND, notND, F__law_draw, D__law_draw, s64, hx', hb, hp]
def mulN : Int → Nat → Int
  | sc, 0 => sc
  | sc, n + 1 => mulN (sc * 1009) n
theorem scale_ok : ∀ n : _root_.Fin 24, (decide (0 < mulN 1 n.val) && decide ((mulN 1 n.val).natAbs.log2 < 9000)) = true := by decide +kernel
theorem scale_of {n : Nat} (h : n < 24) : 0 < mulN 1 n ∧ (mulN 1 n).natAbs.log2 < 9000 := by
  have := scale_ok ⟨n, h⟩
  rw [Bool.and_eq_true, decide_eq_true_iff, decide_eq_true_iff] at this
  exact this
theorem small1009 : small64 1009 = true := by decide
theorem loop_scale {a b c : Option B} : ∀ (ds : List D) (sc : Int) (x5 x6 : Option B) (x : Option B), ∃ x' : Option B,
    fl (gNm 4) (dSet 3 (oV (d2 mulA (oPl 3) (oV (dC (.int 1009)))))) ds [a, b, c, some (.val (.int sc)), x, x5, x6] = .ok ([a, b, c, some (.val (.int (mulN sc ds.length))), x', x5, x6], .nx)
  | [], sc, x5, x6, x => ⟨x, rfl⟩
  | d :: ds, sc, x5, x6, x => by
    obtain ⟨x', ih⟩ := loop_scale ds (sc * 1009) x5 x6 (some (.val d))
    refine ⟨x', ?_⟩
    rw [List.length_cons, mulN, ← ih]
    simp [cfOf, startE, fin_, outsOf, retag, findTag, dRet, dSeq, dEnd, dNever, dIte, dIf, dDrop, dFld, dSet, toB, dC, dName, dBl, dNot, dAnd, dOr, tAndD, tOrD, tNotD, dTru, dBoolC, boolD, dIsi, dIsi2, dIsC, tyN, isN, d2, d3, oV, oPl, aNil, aCons, aStar, seqOf, argB, argsB, ownPl, nodupB, wb, wb1, dCall, dMeth, oMake, oMake0, dSetFld, res, resAll, bV_val, bV_own, tD_lst, tD_ins, vals, dL, dLV, dTup, dLst, oLst, sz, ofO, leD, ltD, gtD, geD, i0D, iD, truD, isSq, lenD, dFz, R.bind, dAsg, gTp, gsCons, gsNil, gNm, dPar, setAll, dAug, dSetIx, isOwn, dApp, dFor, iVals, iRes, iSeq, dSl, pNo, pSome, cutD, dNeg, fdivD, modD, powD, mulA, mulI, addD, absD, intD, max2D, min2D, max3D, min3D, isND, notND, fl, small1009]
theorem near_ok {i : Int} (h0 : -1000000 ≤ i) (h1 : i ≤ 1000000) : near i = true := by simp [near]; omega
theorem f_number {c k b : Int} (h0 : 1 ≤ k) (h1 : k ≤ 12) (hb : 0 < b) : ∃ r : Int, 0 ≤ r ∧ r < b ∧ F__law_number [iv c, iv k, iv b] = .ok [none, none, none] (.int r) := by
  have m24 := mod_lt (a := k) (b := 24) (by omega)
  have hn : near (k % 24) = true := near_ok (by omega) (by omega)
  have hlen : (rngL 0 1 (k % 24).toNat).length < 24 := by rw [rngL_len]; omega
  obtain ⟨hs0, hs1⟩ := scale_of hlen
  obtain ⟨x', hl⟩ := loop_scale (a := some (iv c)) (b := some (iv k)) (c := some (iv b)) (rngL 0 1 (k % 24).toNat) 1 none none none
  generalize mulN 1 (rngL 0 1 (k % 24).toNat).length = sc at hs0 hs1 hl
  have e10 : powD (.int 10) (.int 18) = some (.int (10 ^ 18)) := rfl
  have p18 : (10 : Int) ^ 18 = 1000000000000000000 := rfl
  simp only [p18] at e10
  have sm := mod_lt (a := c) (b := 1000003) (by omega)
  by_cases hpos : 0 < (c - 1000000000000000000) / sc
  · refine ⟨(c - 1000000000000000000) / sc % 1009 % b, (mod_lt hb).1, (mod_lt hb).2, ?_⟩
    simp [cfOf, startE, fin_, outsOf, retag, findTag, dRet, dSeq, dEnd, dNever, dIte, dIf, dDrop, dFld, dSet, toB, dC, dName, dBl, dNot, dAnd, dOr, tAndD, tOrD, tNotD, dTru, dBoolC, boolD, dIsi, dIsi2, dIsC, tyN, isN, d2, d3, oV, oPl, aNil, aCons, aStar, seqOf, argB, argsB, ownPl, nodupB, wb, wb1, dCall, dMeth, oMake, oMake0, dSetFld, res, resAll, bV_val, bV_own, tD_lst, tD_ins, vals, dL, dLV, dTup, dLst, oLst, sz, ofO, leD, ltD, gtD, geD, i0D, iD, truD, isSq, lenD, dFz, R.bind, dAsg, gTp, gsCons, gsNil, gNm, dPar, setAll, dAug, dSetIx, isOwn, dApp, dFor, iVals, iRes, iSeq, dSl, pNo, pSome, cutD, dNeg, fdivD, modD, mulA, mulI, addD, absD, intD, max2D, min2D, max3D, min3D, isND, notND, F__law_number, D__law_number, intD, rng1, hn, hl, e10, hs0, hs1, hpos, hb]
  · obtain ⟨r, r0, r1, hr⟩ := f_draw (c := (c % 1000003 + 977 * k) * (c % 1000003 + 31 * k + 5)) (k := k % 9 + 1) (b := 999983) (by omega)
    refine ⟨r % b, (mod_lt hb).1, (mod_lt hb).2, ?_⟩
    have s1 : small64 977 = true := by decide
    have s2 : small64 31 = true := by decide
    have s3 : small64 (c % 1000003 + 977 * k) = true := s64 (by omega) (by omega)
    simp [cfOf, startE, fin_, outsOf, retag, findTag, dRet, dSeq, dEnd, dNever, dIte, dIf, dDrop, dFld, dSet, toB, dC, dName, dBl, dNot, dAnd, dOr, tAndD, tOrD, tNotD, dTru, dBoolC, boolD, dIsi, dIsi2, dIsC, tyN, isN, d2, d3, oV, oPl, aNil, aCons, aStar, seqOf, argB, argsB, ownPl, nodupB, wb, wb1, dCall, dMeth, oMake, oMake0, dSetFld, res, resAll, bV_val, bV_own, tD_lst, tD_ins, vals, dL, dLV, dTup, dLst, oLst, sz, ofO, leD, ltD, gtD, geD, i0D, iD, truD, isSq, lenD, dFz, R.bind, dAsg, gTp, gsCons, gsNil, gNm, dPar, setAll, dAug, dSetIx, isOwn, dApp, dFor, iVals, iRes, iSeq, dSl, pNo, pSome, cutD, dNeg, fdivD, modD, mulA, mulI, addD, absD, intD, max2D, min2D, max3D, min3D, isND, notND, F__law_number, D__law_number, intD, rng1, hn, hl, e10, hs0, hs1, hpos, hb, s1, s2, s3, hr]
theorem f_next {L : List Int} {n b : Int} {t : Nat} (hn : 0 ≤ n) (hb : 0 < b) : ∃ r : Int, 0 ≤ r ∧ r < b ∧
    F__law_next [.own t (.lst [fI L, .int 0, .int n]), iv b] = .ok [some (.lst [fI L, .int 0, .int (n + 1)]), none] (.int r) := by
  have m12 := mod_lt (a := n + 1) (b := 12) (by omega)
  obtain ⟨c, hc⟩ := f_cell (L := L) (k := (n + 1) / 12) (by omega)
  obtain ⟨r, h0, h1, hr⟩ := f_number (c := c + 31 * ((n + 1) / 12)) (k := (n + 1) % 12 + 1) (b := b) (by omega) (by omega) hb
  refine ⟨r, h0, h1, ?_⟩
  have s31 : small64 31 = true := by decide
  have l12 : (12 : Nat).log2 < 9000 := by decide
  simp [cfOf, startE, fin_, outsOf, retag, findTag, dRet, dSeq, dEnd, dNever, dIte, dIf, dDrop, dFld, dSet, toB, dC, dName, dBl, dNot, dAnd, dOr, tAndD, tOrD, tNotD, dTru, dBoolC, boolD, dIsi, dIsi2, dIsC, tyN, isN, d2, d3, oV, oPl, aNil, aCons, aStar, seqOf, argB, argsB, ownPl, nodupB, wb, wb1, dCall, dMeth, oMake, oMake0, dSetFld, res, resAll, bV_val, bV_own, tD_lst, tD_ins, vals, dL, dLV, dTup, dLst, oLst, sz, ofO, leD, ltD, gtD, geD, i0D, iD, truD, isSq, lenD, dFz, R.bind, dAsg, gTp, gsCons, gsNil, gNm, dPar, setAll, dAug, dSetIx, isOwn, dApp, dFor, iVals, iRes, iSeq, dSl, pNo, pSome, cutD, dNeg, fdivD, modD, powD, mulA, mulI, addD, absD, intD, max2D, min2D, max3D, min3D, isND, notND, F__law_next, D__law_next, ixD, L2.atI, L2.ixN, hc, hr, s31, l12]
end A
end
section
namespace A
open PySem Zd
set_option autoImplicit false
/-! ### drawn lengths -/
def InNine (F : List Int) : Prop := ∀ z ∈ F, 0 ≤ z ∧ z ≤ 9
def Near (s : Int) (F : List Int) : Prop := ∀ (i : Nat) (a b : Int), F[i]? = some a → F[i + 1]? = some b → a - s ≤ b ∧ b ≤ a + s
theorem near_snoc {s z v : Int} {F : List Int} (h : Near s (F ++ [z])) (h1 : z - s ≤ v) (h2 : v ≤ z + s) : Near s (F ++ [z] ++ [v]) := fun i a b ha hb => by
  by_cases hi : i + 1 < (F ++ [z]).length
  · rw [List.getElem?_append_left hi] at hb
    rw [List.getElem?_append_left (by omega)] at ha
    exact h i a b ha hb
  · rw [List.getElem?_append_right (by omega)] at hb
    have e : i + 1 - (F ++ [z]).length = 0 := by
      by_cases h0 : i + 1 - (F ++ [z]).length = 0
      · exact h0
      · rw [List.getElem?_eq_none (by simp only [List.length_singleton]; omega)] at hb; cases hb
    rw [e] at hb
    have hb : v = b := by simpa using hb
    have hlen : (F ++ [z]).length = F.length + 1 := by simp
    have hi2 : i = F.length := by omega
    subst hi2
    rw [List.getElem?_append_left (by omega)] at ha
    have ha : z = a := by simpa using ha
    omega
theorem ix_last {F : List Int} {z : Int} : ixD (.lst ((F ++ [z]).map D.int)) (.int (-1)) = some (.int z) := by
  have e : ((F ++ [z]).map D.int).length = F.length + 1 := by simp
  have c1 : ¬ ((0 : Int) ≤ -1) := by omega
  have c2 : -(((F ++ [z]).map D.int).length : Int) ≤ -1 := by omega
  have c3 : ((-1 : Int) + (((F ++ [z]).map D.int).length : Int)).toNat = F.length := by omega
  show L2.atI ((F ++ [z]).map D.int) (-1) = _
  unfold L2.atI L2.ixN
  rw [if_neg c1, if_pos c2, c3]
  simp
def clip (y : Int) : Int := if (if y < 9 then y else 9) > 0 then (if y < 9 then y else 9) else 0
theorem clip_ok {z r s : Int} (h0 : 0 ≤ z) (h9 : z ≤ 9) (r0 : 0 ≤ r) (r1 : r < 2 * s + 1) : 0 ≤ clip (z + r - s) ∧ clip (z + r - s) ≤ 9 ∧ z - s ≤ clip (z + r - s) ∧ clip (z + r - s) ≤ z + s := by
  unfold clip
  by_cases h : z + r - s < 9
  · rw [if_pos h]
    by_cases h2 : z + r - s > 0
    · rw [if_pos h2]; omega
    · rw [if_neg h2]; omega
  · rw [if_neg h, if_pos (by omega)]; omega
theorem loop_draw {L : List Int} {b s : Int} {t : Nat} (hs0 : 0 ≤ s) (hs1 : s ≤ 3) : ∀ (ds : List D) (n : Int) (F : List Int) (z : Int) (x : Option B) (b3 : B), bVal b3 = .lst ((F ++ [z]).map D.int) → 0 ≤ n → InNine (F ++ [z]) → Near s (F ++ [z]) → F.length + ds.length ≤ 100 → ∃ (n' : Int) (F' : List Int) (z' : Int) (x' : Option B) (b3' : B), bVal b3' = .lst ((F' ++ [z']).map D.int) ∧ 0 ≤ n' ∧ InNine (F' ++ [z']) ∧ Near s (F' ++ [z']) ∧ F'.length = F.length + ds.length ∧
    fl (gNm 4) (dSet 3 (oV (d2 addD (oPl 3) (oLst (aCons (oV (dL maxD (aCons (oLst (aCons (oV (dC (.int 0))) (aCons (oV (dL minD (aCons (oLst (aCons (oV (dC (.int 9))) (aCons (oV (d2 (i0D fun i j => .int (i - j)) (oV (d2 addD (oV (d2 ixD (oPl 3) (oV (dNeg (oV (dC (.int 1))))))) (oV (dCall F__law_next (aCons (oPl 0) (aCons (oV (d2 addD (oV (d2 mulA (oV (dC (.int 2))) (oPl 2))) (oV (dC (.int 1))))) aNil)))))) (oPl 2))) aNil))) aNil))) aNil))) aNil))) aNil)))))
      ds [some (.own t (.lst [fI L, .int 0, .int n])), some (iv b), some (iv s), some b3, x] = .ok ([some (.own t (.lst [fI L, .int 0, .int n'])), some (iv b), some (iv s), some b3', x'], .nx)
  | [], n, F, z, x, b3, h3, hn, h1, h2, _ => ⟨n, F, z, x, b3, h3, hn, h1, h2, rfl, rfl⟩
  | d :: ds, n, F, z, x, b3, h3, hn, h1, h2, hl => by
    obtain ⟨r, r0, r1, hr⟩ := f_next (L := L) (t := t) hn (show 0 < 2 * s + 1 by omega)
    have hz := h1 z (by simp)
    have s2 : small64 2 = true := by decide
    have hv := clip_ok hz.1 hz.2 r0 r1
    obtain ⟨n', F', z', x', b3', i0, i1, i2, i3, i4, ih⟩ := loop_draw hs0 hs1 ds (n + 1) (F ++ [z]) (clip (z + r - s)) (some (.val d)) (.val (.lst ((F ++ [z] ++ [clip (z + r - s)]).map D.int))) rfl (by omega)
      (fun w hw => by
        rcases List.mem_append.mp hw with hw | hw
        · exact h1 w hw
        · rw [List.mem_singleton.mp hw]; exact ⟨hv.1, hv.2.1⟩)
      (near_snoc h2 hv.2.2.1 hv.2.2.2) (by simp only [List.length_append, List.length_nil, List.length_cons] at hl ⊢; omega)
    refine ⟨n', F', z', x', b3', i0, i1, i2, i3, by rw [i4]; simp only [List.length_append, List.length_nil, List.length_cons]; omega, ?_⟩
    rw [← ih]
    have hsz : ((F ++ [z]).map D.int).length + [D.int (clip (z + r - s))].length ≤ 1000000 := by simp only [List.length_map, List.length_append, List.length_nil, List.length_cons] at hl ⊢; omega
    have e9 : minD [.lst [.int 9, .int (z + r - s)]] = some (.int (if z + r - s < 9 then z + r - s else 9)) := rfl
    have e0 : maxD [.lst [.int 0, .int (if z + r - s < 9 then z + r - s else 9)]] = some (.int (clip (z + r - s))) := rfl
    have ea : addD (.lst ((F ++ [z]).map D.int)) (.lst [.int (clip (z + r - s))]) = some (.lst ((F ++ [z] ++ [clip (z + r - s)]).map D.int)) := by
      show (if _ then _ else _) = _
      rw [if_pos hsz]
      simp
    have el := ix_last (F := F) (z := z)
    generalize (F ++ [z]).map D.int = M at ea el h3
    generalize (F ++ [z] ++ [clip (z + r - s)]).map D.int = M2 at ea
    have ei : ∀ a b : Int, addD (.int a) (.int b) = some (.int (a + b)) := fun _ _ => rfl
    simp only [fl]
    simp [cfOf, startE, fin_, outsOf, retag, findTag, dRet, dSeq, dEnd, dNever, dIte, dIf, dDrop, dFld, dSet, toB, dC, dName, dBl, dNot, dAnd, dOr, tAndD, tOrD, tNotD, dTru, dBoolC, boolD, dIsi, dIsi2, dIsC, tyN, isN, d2, d3, oV, oPl, aNil, aCons, aStar, seqOf, argB, argsB, ownPl, nodupB, wb, wb1, dCall, dMeth, oMake, oMake0, dSetFld, res, resAll, bV_val, bV_own, tD_lst, tD_ins, vals, dL, dLV, dTup, dLst, oLst, sz, ofO, leD, ltD, gtD, geD, i0D, iD, truD, isSq, lenD, dFz, R.bind, dAsg, gTp, gsCons, gsNil, gNm, dPar, setAll, dAug, dSetIx, isOwn, dApp, dFor, iVals, iRes, iSeq, dSl, pNo, pSome, cutD, dNeg, fdivD, modD, mulA, mulI, absD, intD, max2D, min2D, max3D, min3D, isND, notND, hr, s2, e9, e0, ea, el, ei, h3]
theorem f_lengths {L : List Int} {m s n : Int} {t : Nat} (hm : 1 ≤ m) (hm2 : m ≤ 40) (hs0 : 0 ≤ s) (hs1 : s ≤ 3) (hn : 0 ≤ n) : ∃ (n' : Int) (Z : List Int), 0 ≤ n' ∧ InNine Z ∧ Near s Z ∧ (Z.length : Int) = m ∧
    F__law_lengths [.own t (.lst [fI L, .int 0, .int n]), iv m, iv s] = .ok [some (.lst [fI L, .int 0, .int n']), none, none] (tI Z) := by
  obtain ⟨r, r0, r1, hr⟩ := f_next (L := L) (t := 1) (b := 10) hn (by omega)
  have hlen : (rngL 0 1 (m - 1).toNat).length = (m - 1).toNat := rngL_len
  obtain ⟨n', F', z', x', b3', i0, i1, i2, i3, i4, ih⟩ := loop_draw (L := L) (b := m) (s := s) (t := 1) hs0 hs1 (rngL 0 1 (m - 1).toNat) (n + 1) [] r none (.own 0 (.lst [.int r])) rfl (by omega)
    (fun w hw => by
      have : w = r := by simpa using hw
      omega)
    (fun i a b ha hb => by
      have : ([r] : List Int)[i + 1]? = some b := hb
      simp at this)
    (by rw [hlen]; simp only [List.length_nil]; omega)
  have hnear : near (m - 1) = true := near_ok (by omega) (by omega)
  refine ⟨n', F' ++ [z'], i1, i2, i3, ?_, ?_⟩
  · rw [hlen] at i4
    simp only [List.length_append, List.length_nil, List.length_cons, i4]
    omega
  · have hx : tupleD [D.lst ((F' ++ [z']).map D.int)] = some (tI (F' ++ [z'])) := rfl
    generalize tI (F' ++ [z']) = Zt at hx
    generalize (F' ++ [z']).map D.int = M at hx i0
    simp [cfOf, startE, fin_, outsOf, retag, findTag, dRet, dSeq, dEnd, dNever, dIte, dIf, dDrop, dFld, dSet, toB, dC, dName, dBl, dNot, dAnd, dOr, tAndD, tOrD, tNotD, dTru, dBoolC, boolD, dIsi, dIsi2, dIsC, tyN, isN, d2, d3, oV, oPl, aNil, aCons, aStar, seqOf, argB, argsB, ownPl, nodupB, wb, wb1, dCall, dMeth, oMake, oMake0, dSetFld, res, resAll, bV_val, bV_own, tD_lst, tD_ins, vals, dL, dLV, dTup, dLst, oLst, sz, ofO, leD, ltD, gtD, geD, i0D, iD, truD, isSq, lenD, dFz, R.bind, dAsg, gTp, gsCons, gsNil, gNm, dPar, setAll, dAug, dSetIx, isOwn, dApp, dFor, iVals, iRes, iSeq, dSl, pNo, pSome, cutD, dNeg, fdivD, modD, mulA, mulI, absD, intD, max2D, min2D, max3D, min3D, isND, notND] at ih
    simp [cfOf, startE, fin_, outsOf, retag, findTag, dRet, dSeq, dEnd, dNever, dIte, dIf, dDrop, dFld, dSet, toB, dC, dName, dBl, dNot, dAnd, dOr, tAndD, tOrD, tNotD, dTru, dBoolC, boolD, dIsi, dIsi2, dIsC, tyN, isN, d2, d3, oV, oPl, aNil, aCons, aStar, seqOf, argB, argsB, ownPl, nodupB, wb, wb1, dCall, dMeth, oMake, oMake0, dSetFld, res, resAll, bV_val, bV_own, tD_lst, tD_ins, vals, dL, dLV, dTup, dLst, oLst, sz, ofO, leD, ltD, gtD, geD, i0D, iD, truD, isSq, lenD, dFz, R.bind, dAsg, gTp, gsCons, gsNil, gNm, dPar, setAll, dAug, dSetIx, isOwn, dApp, dFor, iVals, iRes, iSeq, dSl, pNo, pSome, cutD, dNeg, fdivD, modD, mulA, mulI, absD, intD, max2D, min2D, max3D, min3D, isND, notND, F__law_lengths, D__law_lengths, hr, rng1, hnear, ih, i0, hx]
end A
end
section
namespace A
open PySem Zd
set_option autoImplicit false
/-! ### rings -/
def lg (L : List Int) (t : Int) : Int := (L[t.toNat]?).getD 0
theorem ix_lg {L : List Int} {t : Int} (h0 : 0 ≤ t) (h1 : t < L.length) : ixD (tI L) (.int t) = some (.int (lg L t)) := by
  have hk : t.toNat < L.length := by omega
  simp [ixD, L2.atI, L2.ixN, h0, h1, hk, lg]
def rgo (e m a : Int) (L : List Int) : List Int → Int → List Int → List Int
  | [], _, F => F
  | t :: ts, r, F => if m ≤ (if a < lg L t then r + 1 else 0) then rgo e m a L ts (if a < lg L t then r + 1 else 0) (F ++ [t]) else rgo e m a L ts (if a < lg L t then r + 1 else 0) F
theorem app_ok {F : List Int} {t : Int} : (F ++ [t]).map D.int = F.map D.int ++ [D.int t] := by simp
theorem loop_rings {e m a : Int} {L : List Int} : ∀ (ts : List Int) (r : Int) (F : List Int) (x : Option B), (∀ t ∈ ts, 0 ≤ t ∧ t < L.length) → F.length + ts.length ≤ 1000 → ∃ (r' : Int) (x' : Option B),
    fl (gNm 4) (dSeq (dSet 3 (oV (dIf (dBl (d2 gtD (oV (d2 ixD (oPl 1) (oPl 4))) (oV (dFld fp_above (oPl 0))))) (d2 addD (oPl 3) (oV (dC (.int 1)))) (dC (.int 0)))))
      (dIte (dBl (d2 geD (oPl 3) (oV (dFld fp_many (oPl 0))))) (dApp 2 (dName 4)) (dEnd .nx)))
      (ts.map D.int) [some (.val (LK e m a)), some (.val (tI L)), some (.own 0 (.lst (F.map D.int))), some (iv r), x] =
    .ok ([some (.val (LK e m a)), some (.val (tI L)), some (.own 0 (.lst ((rgo e m a L ts r F).map D.int))), some (iv r'), x'], .nx)
  | [], r, F, x, _, _ => ⟨r, x, rfl⟩
  | t :: ts, r, F, x, h, hl => by
    obtain ⟨h0, h1⟩ := h t List.mem_cons_self
    have hi := ix_lg h0 h1
    have hz : F.length + 1 ≤ 1000000 := by simp only [List.length_cons] at hl ⊢; omega
    have h' : ∀ u ∈ ts, 0 ≤ u ∧ u < L.length := fun u hu => h u (List.mem_cons_of_mem _ hu)
    have ei : ∀ a b : Int, addD (.int a) (.int b) = some (.int (a + b)) := fun _ _ => rfl
    generalize eT : tI L = TL at hi
    by_cases hg : a < lg L t
    · by_cases hm : m ≤ r + 1
      · obtain ⟨r', x', ih⟩ := loop_rings (e := e) (m := m) (a := a) (L := L) ts (r + 1) (F ++ [t]) (some (iv t)) h' (by simp only [List.length_append, List.length_cons, List.length_nil] at hl ⊢; omega)
        refine ⟨r', x', ?_⟩
        rw [eT, app_ok] at ih
        have er : rgo e m a L (t :: ts) r F = rgo e m a L ts (r + 1) (F ++ [t]) := by simp [rgo, hg, hm]
        rw [er, List.map_cons, ← ih]
        simp only [fl]
        simp [cfOf, startE, fin_, outsOf, retag, findTag, dRet, dSeq, dEnd, dNever, dIte, dIf, dDrop, dFld, dSet, toB, dC, dName, dBl, dNot, dAnd, dOr, tAndD, tOrD, tNotD, dTru, dBoolC, boolD, dIsi, dIsi2, dIsC, tyN, isN, d2, d3, oV, oPl, aNil, aCons, aStar, seqOf, argB, argsB, ownPl, nodupB, wb, wb1, dCall, dMeth, oMake, oMake0, dSetFld, res, resAll, bV_val, bV_own, tD_lst, tD_ins, vals, dL, dLV, dTup, dLst, oLst, sz, ofO, leD, ltD, gtD, geD, i0D, iD, truD, isSq, lenD, dFz, R.bind, dAsg, gTp, gsCons, gsNil, gNm, dPar, setAll, dAug, dSetIx, isOwn, dApp, dFor, iVals, iRes, iSeq, dSl, pNo, pSome, cutD, dNeg, fdivD, modD, mulA, mulI, absD, intD, max2D, min2D, max3D, min3D, isND, notND, hi, hg, hm, ei, hz, fp_above, fp_many]
      · obtain ⟨r', x', ih⟩ := loop_rings (e := e) (m := m) (a := a) (L := L) ts (r + 1) F (some (iv t)) h' (by simp only [List.length_cons] at hl ⊢; omega)
        refine ⟨r', x', ?_⟩
        rw [eT] at ih
        have er : rgo e m a L (t :: ts) r F = rgo e m a L ts (r + 1) F := by simp [rgo, hg, hm]
        rw [er, List.map_cons, ← ih]
        simp only [fl]
        simp [cfOf, startE, fin_, outsOf, retag, findTag, dRet, dSeq, dEnd, dNever, dIte, dIf, dDrop, dFld, dSet, toB, dC, dName, dBl, dNot, dAnd, dOr, tAndD, tOrD, tNotD, dTru, dBoolC, boolD, dIsi, dIsi2, dIsC, tyN, isN, d2, d3, oV, oPl, aNil, aCons, aStar, seqOf, argB, argsB, ownPl, nodupB, wb, wb1, dCall, dMeth, oMake, oMake0, dSetFld, res, resAll, bV_val, bV_own, tD_lst, tD_ins, vals, dL, dLV, dTup, dLst, oLst, sz, ofO, leD, ltD, gtD, geD, i0D, iD, truD, isSq, lenD, dFz, R.bind, dAsg, gTp, gsCons, gsNil, gNm, dPar, setAll, dAug, dSetIx, isOwn, dApp, dFor, iVals, iRes, iSeq, dSl, pNo, pSome, cutD, dNeg, fdivD, modD, mulA, mulI, absD, intD, max2D, min2D, max3D, min3D, isND, notND, hi, hg, hm, ei, fp_above, fp_many]
    · by_cases hm : m ≤ 0
      · obtain ⟨r', x', ih⟩ := loop_rings (e := e) (m := m) (a := a) (L := L) ts 0 (F ++ [t]) (some (iv t)) h' (by simp only [List.length_append, List.length_cons, List.length_nil] at hl ⊢; omega)
        refine ⟨r', x', ?_⟩
        rw [eT, app_ok] at ih
        have er : rgo e m a L (t :: ts) r F = rgo e m a L ts 0 (F ++ [t]) := by simp [rgo, hg, hm]
        rw [er, List.map_cons, ← ih]
        simp only [fl]
        simp [cfOf, startE, fin_, outsOf, retag, findTag, dRet, dSeq, dEnd, dNever, dIte, dIf, dDrop, dFld, dSet, toB, dC, dName, dBl, dNot, dAnd, dOr, tAndD, tOrD, tNotD, dTru, dBoolC, boolD, dIsi, dIsi2, dIsC, tyN, isN, d2, d3, oV, oPl, aNil, aCons, aStar, seqOf, argB, argsB, ownPl, nodupB, wb, wb1, dCall, dMeth, oMake, oMake0, dSetFld, res, resAll, bV_val, bV_own, tD_lst, tD_ins, vals, dL, dLV, dTup, dLst, oLst, sz, ofO, leD, ltD, gtD, geD, i0D, iD, truD, isSq, lenD, dFz, R.bind, dAsg, gTp, gsCons, gsNil, gNm, dPar, setAll, dAug, dSetIx, isOwn, dApp, dFor, iVals, iRes, iSeq, dSl, pNo, pSome, cutD, dNeg, fdivD, modD, mulA, mulI, absD, intD, max2D, min2D, max3D, min3D, isND, notND, hi, hg, hm, ei, hz, fp_above, fp_many]
      · obtain ⟨r', x', ih⟩ := loop_rings (e := e) (m := m) (a := a) (L := L) ts 0 F (some (iv t)) h' (by simp only [List.length_cons] at hl ⊢; omega)
        refine ⟨r', x', ?_⟩
        rw [eT] at ih
        have er : rgo e m a L (t :: ts) r F = rgo e m a L ts 0 F := by simp [rgo, hg, hm]
        rw [er, List.map_cons, ← ih]
        simp only [fl]
        simp [cfOf, startE, fin_, outsOf, retag, findTag, dRet, dSeq, dEnd, dNever, dIte, dIf, dDrop, dFld, dSet, toB, dC, dName, dBl, dNot, dAnd, dOr, tAndD, tOrD, tNotD, dTru, dBoolC, boolD, dIsi, dIsi2, dIsC, tyN, isN, d2, d3, oV, oPl, aNil, aCons, aStar, seqOf, argB, argsB, ownPl, nodupB, wb, wb1, dCall, dMeth, oMake, oMake0, dSetFld, res, resAll, bV_val, bV_own, tD_lst, tD_ins, vals, dL, dLV, dTup, dLst, oLst, sz, ofO, leD, ltD, gtD, geD, i0D, iD, truD, isSq, lenD, dFz, R.bind, dAsg, gTp, gsCons, gsNil, gNm, dPar, setAll, dAug, dSetIx, isOwn, dApp, dFor, iVals, iRes, iSeq, dSl, pNo, pSome, cutD, dNeg, fdivD, modD, mulA, mulI, absD, intD, max2D, min2D, max3D, min3D, isND, notND, hi, hg, hm, ei, fp_above, fp_many]
/-- 0, e, 2 e, .. below n -/
def ticks (n e : Int) : List Int := (List.range (Builtin.Range.rangeSize 0 n e).toNat).map fun (i : Nat) => (i : Int) * e
def rings (e m a : Int) (L : List Int) : List Int := rgo e m a L (ticks L.length e) 0 []
theorem ticks_rng {n e : Int} : rngL 0 e (Builtin.Range.rangeSize 0 n e).toNat = (ticks n e).map D.int := by
  unfold rngL ticks
  rw [List.map_map]
  apply List.map_congr_left
  intro i _
  simp
theorem ticks_mem {n e t : Int} (he : 1 ≤ e) (hn : 0 ≤ n) : t ∈ ticks n e ↔ ∃ i : Nat, t = (i : Int) * e ∧ (i : Int) * e < n := by
  unfold ticks
  rw [List.mem_map]
  have hs : Builtin.Range.rangeSize 0 n e = if 0 < n then (n - 1) / e + 1 else 0 := by
    unfold Builtin.Range.rangeSize
    rw [if_pos (show e > 0 by omega), Int.sub_zero]
  constructor
  · rintro ⟨i, hi, rfl⟩
    refine ⟨i, rfl, ?_⟩
    rw [List.mem_range, hs] at hi
    by_cases h : 0 < n
    · rw [if_pos h] at hi
      have h1 : (i : Int) ≤ (n - 1) / e := by
        have := Int.ediv_nonneg (show 0 ≤ n - 1 by omega) (show 0 ≤ e by omega)
        omega
      have h2 := Int.mul_le_of_le_ediv (show 0 < e by omega) h1
      omega
    · rw [if_neg h] at hi; simp at hi
  · rintro ⟨i, rfl, h⟩
    refine ⟨i, ?_, rfl⟩
    rw [List.mem_range, hs]
    have h0 : 0 ≤ (i : Int) * e := Int.mul_nonneg (by omega) (by omega)
    rw [if_pos (by omega)]
    have h1 : (i : Int) ≤ (n - 1) / e := Int.le_ediv_of_mul_le (by omega) (by omega)
    omega
end A
end
section
namespace A
open PySem Zd
set_option autoImplicit false
/-! ### comprehensions -/
theorem lc_gen {vs : List Nat} {g : D → Zd.Env → Option Zd.Env} {t : DTn} {d : DEn} {ρ : Zd.Env} (p : D → Bool) (f : D → D) : ∀ (ds acc : List D),
    (∀ x ∈ ds, ∃ ρ1, g x ρ = some ρ1 ∧ ((p x = true ∧ ∃ ρ2 ρ3, t ρ1 = .ok (ρ2, true) ∧ d ρ2 = .ok (ρ3, f x) ∧ wipeE ρ3 vs = ρ) ∨ (p x = false ∧ ∃ ρ2, t ρ1 = .ok (ρ2, false) ∧ wipeE ρ2 vs = ρ))) →
    acc.length + ds.length ≤ 1000000 → lcGo vs g t d ds ρ acc = some (ρ, acc ++ (ds.filter p).map f)
  | [], acc, _, _ => by simp [lcGo]
  | x :: xs, acc, h, hl => by
    obtain ⟨ρ1, h1, h2⟩ := h x List.mem_cons_self
    have h' := fun y hy => h y (List.mem_cons_of_mem x hy)
    rw [List.length_cons] at hl
    rcases h2 with ⟨hp, ρ2, ρ3, e1, e2, e3⟩ | ⟨hp, ρ2, e1, e2⟩
    · have ih := lc_gen (t := t) (d := d) p f xs (acc ++ [f x]) h' (by simp only [List.length_append, List.length_cons, List.length_nil]; omega)
      rw [List.filter_cons_of_pos hp]
      simp [lcGo, h1, e1, e2, e3, show acc.length + 1 ≤ 1000000 by omega, ih]
    · have ih := lc_gen (t := t) (d := d) p f xs acc h' (by omega)
      rw [List.filter_cons_of_neg (by simp [hp])]
      simp [lcGo, h1, e1, e2, ih]
theorem oLc_ok {di : DIn} {vs : List Nat} {g : D → Zd.Env → Option Zd.Env} {t : DTn} {d : DEn} {ρ ρ' : Zd.Env} {ds : List D} (p : D → Bool) (f : D → D) (hd : di ρ = .ok (ρ', ds)) (hn : noOwn ρ' vs = true)
    (h : ∀ x ∈ ds, ∃ ρ1, g x (wipeE ρ' vs) = some ρ1 ∧ ((p x = true ∧ ∃ ρ2 ρ3, t ρ1 = .ok (ρ2, true) ∧ d ρ2 = .ok (ρ3, f x) ∧ wipeE ρ3 vs = wipeE ρ' vs) ∨ (p x = false ∧ ∃ ρ2, t ρ1 = .ok (ρ2, false) ∧ wipeE ρ2 vs = wipeE ρ' vs)))
    (hl : ds.length ≤ 1000000) : oLc di vs g t d ρ = .ok (backE ρ' (wipeE ρ' vs) vs, .fr (.lst ((ds.filter p).map f))) := by
  have e := lc_gen (t := t) (d := d) p f ds [] h (by simpa using hl)
  unfold oLc
  rw [hd]
  show (if noOwn ρ' vs = true then _ else _) = _
  rw [if_pos hn, e]
  simp
/-! ### small judges -/
structure Okl (e m a : Int) : Prop where
  e1 : 1 ≤ e
  e6 : e ≤ 6
  m1 : 1 ≤ m
  m4 : m ≤ 4
  a0 : 0 ≤ a
  a8 : a ≤ 8
theorem span_b {e m a : Int} (h : Okl e m a) : 0 ≤ (m - 1) * e ∧ (m - 1) * e ≤ 18 := by
  have := h.e1; have := h.e6; have := h.m1; have := h.m4
  constructor
  · exact Int.mul_nonneg (by omega) (by omega)
  · exact Int.le_trans (Int.mul_le_mul (show m - 1 ≤ 3 by omega) (show e ≤ 6 by omega) (by omega) (by omega)) (by omega)
theorem f_rings_of {e m a : Int} {L : List Int} (h : Okl e m a) (hL : InNine L) (l1 : 1 ≤ L.length) (l2 : L.length ≤ 80) :
    F_rings_of [.val (LK e m a), .val (tI L)] = .ok [none, none] (tI (rings e m a L)) := by
  have e1 := h.e1; have e6 := h.e6
  have hck := f_check_lengths l1 l2 hL
  obtain ⟨r', x', hl⟩ := loop_rings (e := e) (m := m) (a := a) (L := L) (ticks L.length e) 0 [] none
    (fun t ht => by
      obtain ⟨i, rfl, hi⟩ := (ticks_mem e1 (by omega)).mp ht
      exact ⟨Int.mul_nonneg (by omega) (by omega), hi⟩)
    (by
      unfold ticks
      have hs : Builtin.Range.rangeSize 0 L.length e = ((L.length : Int) - 1) / e + 1 := by
        unfold Builtin.Range.rangeSize
        rw [if_pos (show e > 0 by omega), if_pos (by omega), Int.sub_zero]
      have : ((L.length : Int) - 1) / e ≤ L.length - 1 := Int.ediv_le_self _ (by omega)
      rw [List.length_map, List.length_range, hs]
      simp only [List.length_nil]
      omega)
  have hr : rng3 [.int 0, .int (L.length : Int), .int e] = some ((ticks L.length e).map D.int) := by
    have hs : Builtin.Range.rangeSize 0 L.length e = ((L.length : Int) - 1) / e + 1 := by
      unfold Builtin.Range.rangeSize
      rw [if_pos (show e > 0 by omega), if_pos (by omega), Int.sub_zero]
    have hq : 0 ≤ ((L.length : Int) - 1) / e := Int.ediv_nonneg (by omega) (by omega)
    have hsm : Builtin.Range.small 0 (L.length : Int) e = true := by
      have : ((L.length : Int) - 1) / e ≤ L.length - 1 := Int.ediv_le_self _ (by omega)
      simp only [Builtin.Range.small]

      have h1 : Builtin.Range.rangeFitsLong (Builtin.Range.rangeSize 0 (L.length : Int) e) = true := by rw [hs]; simp only [Builtin.Range.rangeFitsLong, Bool.and_eq_true, decide_eq_true_iff]; omega
      rw [h1, if_pos (show e > 0 by omega)]
      simp only [Builtin.Range.rangeFitsLong, Bool.and_eq_true, Bool.or_eq_true, decide_eq_true_iff]
      refine ⟨⟨⟨⟨by omega, by omega⟩, by omega⟩, ?_⟩, .inr (by omega)⟩
      first | trivial | rfl
    have hz : Builtin.Range.rangeSize 0 (L.length : Int) e = ((Builtin.Range.rangeSize 0 (L.length : Int) e).toNat : Int) := by rw [hs]; omega
    show (if _ then _ else _) = _
    rw [if_pos ⟨by omega, by omega, hsm, hz⟩, ticks_rng]
  have ht : tupleD [D.lst ((rings e m a L).map D.int)] = some (tI (rings e m a L)) := rfl
  unfold rings at ht
  generalize eT : tI L = TL at hl hck
  have hlen : lenD [TL] = some (.int L.length) := by rw [← eT]; simp [lenD, lenI, tI, isSq]
  have h0 : ([] : List D) = ([] : List Int).map D.int := rfl
  unfold rings
  generalize rgo e m a L (ticks L.length e) 0 [] = G at hl ht
  generalize ((ticks L.length e).map D.int) = TK at hl hr
  simp only [List.map_nil] at hl
  simp [cfOf, startE, fin_, outsOf, retag, findTag, dRet, dSeq, dEnd, dNever, dIte, dIf, dDrop, dFld, dSet, toB, dC, dName, dBl, dNot, dAnd, dOr, tAndD, tOrD, tNotD, dTru, dBoolC, boolD, dIsi, dIsi2, dIsC, tyN, isN, d2, d3, oV, oPl, aNil, aCons, aStar, seqOf, argB, argsB, ownPl, nodupB, wb, wb1, dCall, dMeth, oMake, oMake0, dSetFld, res, resAll, bV_val, bV_own, tD_lst, tD_ins, vals, dL, dLV, dTup, dLst, oLst, sz, ofO, leD, ltD, gtD, geD, i0D, iD, truD, isSq, dFz, R.bind, dAsg, gTp, gsCons, gsNil, gNm, dPar, setAll, dAug, dSetIx, isOwn, dApp, dFor, iVals, iRes, iSeq, dSl, pNo, pSome, cutD, dNeg, fdivD, modD, mulA, mulI, absD, intD, max2D, min2D, max3D, min3D, isND, notND] at hl
  simp [cfOf, startE, fin_, outsOf, retag, findTag, dRet, dSeq, dEnd, dNever, dIte, dIf, dDrop, dFld, dSet, toB, dC, dName, dBl, dNot, dAnd, dOr, tAndD, tOrD, tNotD, dTru, dBoolC, boolD, dIsi, dIsi2, dIsC, tyN, isN, d2, d3, oV, oPl, aNil, aCons, aStar, seqOf, argB, argsB, ownPl, nodupB, wb, wb1, dCall, dMeth, oMake, oMake0, dSetFld, res, resAll, bV_val, bV_own, tD_lst, tD_ins, vals, dL, dLV, dTup, dLst, oLst, sz, ofO, leD, ltD, gtD, geD, i0D, iD, truD, isSq, dFz, R.bind, dAsg, gTp, gsCons, gsNil, gNm, dPar, setAll, dAug, dSetIx, isOwn, dApp, dFor, iVals, iRes, iSeq, dSl, pNo, pSome, cutD, dNeg, fdivD, modD, mulA, mulI, absD, intD, max2D, min2D, max3D, min3D, isND, notND, F_rings_of, D_rings_of, f_check_looks, hck, hr, hl, fp_every, hlen, ht]
end A
end
section
namespace A
open PySem Zd
set_option autoImplicit false
/-! ### where rings are -/
def isR (e m a : Int) (L : List Int) (t : Int) : Bool := decide ((m - 1) * e ≤ t) && (List.range m.toNat).all fun j => decide (a < lg L (t - (j : Int) * e))
theorem isR_iff {e m a t : Int} {L : List Int} : isR e m a L t = true ↔ (m - 1) * e ≤ t ∧ ∀ j : Nat, (j : Int) < m → a < lg L (t - (j : Int) * e) := by
  unfold isR
  rw [Bool.and_eq_true, decide_eq_true_iff, List.all_eq_true]
  constructor
  · rintro ⟨h1, h2⟩
    refine ⟨h1, fun j hj => ?_⟩
    have := h2 j (List.mem_range.mpr (by omega))
    simpa using this
  · rintro ⟨h1, h2⟩
    refine ⟨h1, fun j hj => ?_⟩
    have := h2 j (by have := List.mem_range.mp hj; omega)
    simpa using this
structure RowA (e a : Int) (L : List Int) (s r : Nat) : Prop where
  le : r ≤ s
  hot : ∀ j : Nat, s - r ≤ j → j < s → a < lg L ((j : Int) * e)
  cold : r < s → ¬ a < lg L (((s - r - 1 : Nat) : Int) * e)
theorem sub_e {s j : Nat} {e : Int} (h : j ≤ s) : (s : Int) * e - (j : Int) * e = ((s - j : Nat) : Int) * e := by
  rw [Int.ofNat_sub h, Int.sub_mul]
theorem isR_row {e m a : Int} {L : List Int} {s r : Nat} (he : 1 ≤ e) (hm : 1 ≤ m) (h : RowA e a L s r) (hs : a < lg L ((s : Int) * e)) : isR e m a L ((s : Int) * e) = decide (m ≤ (r : Int) + 1) := by
  rw [Bool.eq_iff_iff, isR_iff, decide_eq_true_iff]
  constructor
  · rintro ⟨h1, h2⟩
    have h3 : m - 1 ≤ s := Int.le_of_mul_le_mul_right h1 (by omega)
    by_cases hr : m ≤ (r : Int) + 1
    · exact hr
    · have h4 : r < s := by omega
      have h5 := h2 (r + 1) (by omega)
      rw [sub_e (by omega)] at h5
      exact absurd h5 (h.cold h4)
  · intro hr
    have := h.le
    refine ⟨Int.mul_le_mul_of_nonneg_right (by omega) (by omega), fun j hj => ?_⟩
    rw [sub_e (by omega)]
    by_cases h0 : j = 0
    · rw [h0]; exact hs
    · exact h.hot (s - j) (by omega) (by omega)
theorem rgo_filter {e m a : Int} {L : List Int} (he : 1 ≤ e) (hm : 1 ≤ m) : ∀ (k s r : Nat) (F : List Int), RowA e a L s r →
    rgo e m a L ((List.range' s k).map fun (i : Nat) => (i : Int) * e) r F = F ++ ((List.range' s k).map fun (i : Nat) => (i : Int) * e).filter (isR e m a L)
  | 0, s, r, F, _ => by simp [rgo]
  | k + 1, s, r, F, h => by
    rw [List.range'_succ, List.map_cons]
    have hle := h.le
    by_cases hs : a < lg L ((s : Int) * e)
    · have hR := isR_row he hm h hs
      have h' : RowA e a L (s + 1) (r + 1) := ⟨by omega, fun j h1 h2 => by
        by_cases hj : j = s
        · rw [hj]; exact hs
        · exact h.hot j (by omega) (by omega), fun h1 => by
        rw [show s + 1 - (r + 1) - 1 = s - r - 1 by omega]
        exact h.cold (by omega)⟩
      have ec : (((r + 1 : Nat)) : Int) = (r : Int) + 1 := by omega
      by_cases hr : m ≤ (r : Int) + 1
      · have ih := rgo_filter he hm k (s + 1) (r + 1) (F ++ [(s : Int) * e]) h'
        rw [ec] at ih
        rw [rgo, if_pos hs, if_pos hr, ih, List.filter_cons_of_pos (by rw [hR]; simpa using hr)]
        simp
      · have ih := rgo_filter he hm k (s + 1) (r + 1) F h'
        rw [ec] at ih
        rw [rgo, if_pos hs, if_neg hr, ih, List.filter_cons_of_neg (by rw [hR]; simpa using hr)]
    · have h' : RowA e a L (s + 1) 0 := ⟨by omega, fun j h1 h2 => by omega, fun _ => by
        rw [show s + 1 - 0 - 1 = s by omega]; exact hs⟩
      have ih := rgo_filter he hm k (s + 1) 0 F h'
      have hR : ¬ isR e m a L ((s : Int) * e) = true := fun hc => by
        have := (isR_iff.mp hc).2 0 (by omega)
        rw [sub_e (by omega)] at this
        exact hs this
      rw [rgo, if_neg hs, if_neg (by omega), List.filter_cons_of_neg hR]
      exact ih
theorem rings_eq {e m a : Int} {L : List Int} (he : 1 ≤ e) (hm : 1 ≤ m) : rings e m a L = (ticks L.length e).filter (isR e m a L) := by
  have h := rgo_filter (a := a) (L := L) he hm (Builtin.Range.rangeSize 0 (L.length : Int) e).toNat 0 0 [] ⟨Nat.le_refl _, fun j h1 h2 => by omega, fun h => by omega⟩
  unfold rings ticks
  rw [List.range_eq_range']
  simpa using h
theorem mem_rings {e m a t : Int} {L : List Int} (he : 1 ≤ e) (hm : 1 ≤ m) : t ∈ rings e m a L ↔ (∃ i : Nat, t = (i : Int) * e ∧ t < L.length) ∧ isR e m a L t = true := by
  rw [rings_eq he hm, List.mem_filter, ticks_mem he (by omega)]
  constructor
  · rintro ⟨⟨i, rfl, h⟩, h2⟩; exact ⟨⟨i, rfl, h⟩, h2⟩
  · rintro ⟨⟨i, rfl, h⟩, h2⟩; exact ⟨⟨i, rfl, h⟩, h2⟩
/-- rings of looks that ring sooner -/
theorem isR_sooner {e m a m' a' t : Int} {L : List Int} (he : 1 ≤ e) (h : isR e m a L t = true) (hm : m' ≤ m) (ha : a' ≤ a) : isR e m' a' L t = true := by
  rw [isR_iff] at h ⊢
  refine ⟨Int.le_trans (Int.mul_le_mul_of_nonneg_right (by omega) (by omega)) h.1, fun j hj => ?_⟩
  have := h.2 j (by omega)
  omega
theorem lg_map {f : Int → Int} {L : List Int} {t : Int} (h0 : 0 ≤ t) (h1 : t < L.length) : lg (L.map f) t = f (lg L t) := by
  have : t.toNat < L.length := by omega
  simp [lg, this]
theorem isR_raised {e m a t : Int} {L : List Int} (he : 1 ≤ e) (h0 : 0 ≤ t) (h1 : t < L.length) (ha : a ≤ 8) (h : isR e m a L t = true) : isR e m a (L.map fun x => if x + 1 < 9 then x + 1 else 9) t = true := by
  rw [isR_iff] at h ⊢
  refine ⟨h.1, fun j hj => ?_⟩
  have hj2 := h.2 j hj
  have h3 : (j : Int) * e ≤ (m - 1) * e := Int.mul_le_mul_of_nonneg_right (by omega) (by omega)
  have h4 : 0 ≤ (j : Int) * e := Int.mul_nonneg (by omega) (by omega)
  rw [lg_map (by omega) (by omega)]
  by_cases hx : lg L (t - (j : Int) * e) + 1 < 9
  · rw [if_pos hx]; omega
  · rw [if_neg hx]; omega
end A
end
section
namespace A
open PySem Zd
set_option autoImplicit false
theorem depth_all : ∀ L : List Int, PyData.depthAll (D.pys (L.map D.int)) ≤ 1
  | [] => by simp [D.pys, PyData.depthAll]
  | x :: L => by
    have := depth_all L
    simp only [List.map_cons, D.pys, PyData.depthAll, D.py, PyData.depth]
    omega
theorem flats_int : ∀ L : List Int, D.flats (L.map D.int) = true
  | [] => rfl
  | x :: L => by simp [D.flats, D.flat, flats_int L]
theorem eqbs_int : ∀ L M : List Int, D.eqbs (L.map D.int) (M.map D.int) = decide (L = M)
  | [], [] => rfl
  | [], _ :: _ => by simp [D.eqbs]
  | _ :: _, [] => by simp [D.eqbs]
  | x :: L, y :: M => by
    by_cases h : x = y <;> simp [D.eqbs, D.eqb, eqbs_int L M, h]
theorem inB_int (t : Int) (L : List Int) : inB (.int t) (L.map D.int) = decide (t ∈ L) := by
  induction L with
  | nil => rfl
  | cons x L ih =>
    simp only [inB, List.map_cons, List.any_cons, D.eqb] at ih ⊢
    rw [ih]
    by_cases h : x = t
    · simp [h]
    · simp [h, Ne.symm h]
theorem fine_tI (L : List Int) : (tI L).fine = true := by
  have := depth_all L
  simp [D.fine, D.flat, flats_int, D.py, PyData.depth]
  omega
theorem fine_int (t : Int) : (D.int t).fine = true := by simp [D.fine, D.flat, D.py, PyData.depth]
theorem ne_tI (L M : List Int) : neD (tI L) (tI M) = some (.bl (!decide (L = M))) := by
  simp only [neD]
  rw [if_pos ⟨fine_tI L, fine_tI M⟩]
  simp [D.eqb, eqbs_int]
theorem eq_tI (L M : List Int) : eqD (tI L) (tI M) = some (.bl (decide (L = M))) := by
  simp only [eqD]
  rw [if_pos ⟨fine_tI L, fine_tI M⟩]
  simp [D.eqb, eqbs_int]
theorem in_tI (b : Bool) (t : Int) (L : List Int) : inD b (.int t) (tI L) = some (.bl (if b then !decide (t ∈ L) else decide (t ∈ L))) := by
  show (if _ then _ else _) = _
  rw [if_pos ⟨fine_int t, flats_int L⟩, inB_int]
theorem lc_int {v : Nat} {ρ : Zd.Env} {di : DIn} {t : DTn} {c : DEn} {Rg : List Int} (q : Int → Bool) (f : Int → D) (hv : v < ρ.length) (hn : noOwn ρ [v] = true) (hdi : di ρ = .ok (ρ, Rg.map D.int))
    (ht : ∀ x ∈ Rg, t (ρ.set v (some (.val (.int x)))) = .ok (ρ.set v (some (.val (.int x))), q x))
    (hc : ∀ x ∈ Rg, q x = true → c (ρ.set v (some (.val (.int x)))) = .ok (ρ.set v (some (.val (.int x))), f x)) (hl : Rg.length ≤ 1000000) :
    oLc di [v] (gNm v) t c ρ = .ok (ρ, .fr (.lst ((Rg.filter q).map f))) := by
  have e := oLc_ok (di := di) (vs := [v]) (g := gNm v) (t := t) (d := c) (ρ := ρ) (ρ' := ρ) (ds := Rg.map D.int)
    (fun d => match d with | .int x => q x | _ => false) (fun d => match d with | .int x => f x | _ => .non) hdi hn
    (fun d hd => by
      obtain ⟨x, hx, rfl⟩ := List.mem_map.mp hd
      refine ⟨ρ.set v (some (.val (.int x))), by simp [gNm, wipeE, dAsg, hv], ?_⟩
      have h1 := ht x hx
      have h2 := hc x hx
      by_cases hq : q x = true
      · rw [hq] at h1
        exact .inl ⟨hq, _, _, h1, h2 hq, by simp [wipeE]⟩
      · have hq : q x = false := by simpa using hq
        rw [hq] at h1
        exact .inr ⟨hq, _, h1, by simp [wipeE]⟩)
    (by simpa using hl)
  have hb : backE ρ (wipeE ρ [v]) [v] = ρ := by
    simp only [backE, wipeE, List.set_set]
    rw [List.getElem?_eq_getElem hv]
    simp
  rw [e, hb]
  congr 4
  rw [List.filter_map, List.map_map]
  rfl
theorem bls_map {α : Type} (p : α → Bool) : ∀ L : List α, blsD (L.map fun t => D.bl (p t)) = some (L.map p)
  | [] => rfl
  | x :: L => by simp [blsD, bls_map p L]
theorem any_bls {α : Type} (p : α → Bool) (L : List α) : anyD [.lst (L.map fun t => D.bl (p t))] = some (.bl (L.any p)) := by
  simp [anyD, lsOf, bls_map, List.any_map, Function.comp_def]
theorem all_bls {α : Type} (p : α → Bool) (L : List α) : allD [.lst (L.map fun t => D.bl (p t))] = some (.bl (L.all p)) := by
  simp [allD, lsOf, bls_map, List.all_map, Function.comp_def]
end A
end
section
namespace A
open PySem Zd
set_option autoImplicit false
theorem sort_ext : ∀ {A B : List Int}, A.Pairwise (· < ·) → B.Pairwise (· < ·) → (∀ x, x ∈ A ↔ x ∈ B) → A = B
  | [], [], _, _, _ => rfl
  | [], y :: B, _, _, h => nomatch (h y).mpr List.mem_cons_self
  | x :: A, [], _, _, h => nomatch (h x).mp List.mem_cons_self
  | x :: A, y :: B, ha, hb, h => by
    rw [List.pairwise_cons] at ha hb
    have e : x = y := by
      rcases List.mem_cons.mp ((h x).mp List.mem_cons_self) with h1 | h1
      · exact h1
      · rcases List.mem_cons.mp ((h y).mpr List.mem_cons_self) with h2 | h2
        · exact h2.symm
        · have := ha.1 _ h2; have := hb.1 _ h1; omega
    subst e
    congr 1
    refine sort_ext ha.2 hb.2 fun z => ⟨fun hz => ?_, fun hz => ?_⟩
    · rcases List.mem_cons.mp ((h z).mp (List.mem_cons_of_mem _ hz)) with h1 | h1
      · have := ha.1 _ hz; omega
      · exact h1
    · rcases List.mem_cons.mp ((h z).mpr (List.mem_cons_of_mem _ hz)) with h1 | h1
      · have := hb.1 _ hz; omega
      · exact h1
theorem ticks_sort {n e : Int} (he : 1 ≤ e) : (ticks n e).Pairwise (· < ·) := by
  unfold ticks
  rw [List.pairwise_map]
  refine List.Pairwise.imp (fun {x y} hxy => ?_) List.pairwise_lt_range
  exact Int.mul_lt_mul_of_pos_right (by omega) (by omega)
theorem rings_sort {e m a : Int} {L : List Int} (he : 1 ≤ e) (hm : 1 ≤ m) : (rings e m a L).Pairwise (· < ·) := by
  rw [rings_eq he hm]
  exact (ticks_sort he).filter _
theorem ticks_len {n e : Int} (he : 1 ≤ e) (hn : 0 ≤ n) : (ticks n e).length ≤ n.toNat := by
  unfold ticks
  rw [List.length_map, List.length_range]
  unfold Builtin.Range.rangeSize
  rw [if_pos (show e > 0 by omega), Int.sub_zero]
  by_cases h : 0 < n
  · rw [if_pos (by omega)]
    have : (n - 1) / e ≤ n - 1 := Int.ediv_le_self _ (by omega)
    omega
  · rw [if_neg (by omega)]; omega
theorem rings_len {e m a : Int} {L : List Int} (he : 1 ≤ e) (hm : 1 ≤ m) : (rings e m a L).length ≤ L.length := by
  rw [rings_eq he hm]
  have h1 := List.length_filter_le (isR e m a L) (ticks L.length e)
  have h2 := ticks_len (n := L.length) he (by omega)
  omega
theorem lg_take {L : List Int} {t : Int} {c : Nat} (h0 : 0 ≤ t) (h1 : t < c) : lg (L.take c) t = lg L t := by
  unfold lg
  rw [List.getElem?_take_of_lt (by omega)]
theorem lg_pre0 {L : List Int} {t : Int} {k : Nat} (h0 : 0 ≤ t) (h1 : t < k) : lg (List.replicate k 0 ++ L) t = 0 := by
  unfold lg
  rw [List.getElem?_append_left (by simp; omega), List.getElem?_replicate]
  split <;> rfl
theorem lg_pre {L : List Int} {t : Int} {k : Nat} (h1 : (k : Int) ≤ t) : lg (List.replicate k 0 ++ L) t = lg L (t - k) := by
  unfold lg
  rw [List.getElem?_append_right (by simp; omega), List.length_replicate, show t.toNat - k = (t - k).toNat by omega]
/-- a tick of a ring, and what it looks back at -/
theorem back_in {e m t : Int} {j : Nat} (he : 1 ≤ e) (h : (m - 1) * e ≤ t) (hj : (j : Int) < m) : 0 ≤ t - (j : Int) * e ∧ t - (j : Int) * e ≤ t := by
  have h3 : (j : Int) * e ≤ (m - 1) * e := Int.mul_le_mul_of_nonneg_right (by omega) (by omega)
  have h4 : 0 ≤ (j : Int) * e := Int.mul_nonneg (by omega) (by omega)
  omega
theorem rings_cut {e m a : Int} {L : List Int} {c : Nat} (he : 1 ≤ e) (hm : 1 ≤ m) (hc : c ≤ L.length) : rings e m a (L.take c) = (rings e m a L).filter fun (t : Int) => decide (t < (c : Int)) := by
  refine sort_ext (rings_sort he hm) ((rings_sort he hm).filter _) fun t => ?_
  rw [List.mem_filter, mem_rings he hm, mem_rings he hm, decide_eq_true_iff, isR_iff, isR_iff]
  have hl : (L.take c).length = c := by rw [List.length_take]; omega
  rw [hl]
  constructor
  · rintro ⟨⟨i, rfl, h1⟩, h2, h3⟩
    refine ⟨⟨⟨i, rfl, by omega⟩, h2, fun j hj => ?_⟩, h1⟩
    have hb := back_in he h2 hj
    have := h3 j hj
    rwa [lg_take hb.1 (by omega)] at this
  · rintro ⟨⟨⟨i, rfl, h1⟩, h2, h3⟩, h4⟩
    refine ⟨⟨i, rfl, h4⟩, h2, fun j hj => ?_⟩
    have hb := back_in he h2 hj
    rw [lg_take hb.1 (by omega)]
    exact h3 j hj
theorem rings_shift {e m a : Int} {L : List Int} (he : 1 ≤ e) (hm : 1 ≤ m) (ha : 0 ≤ a) : rings e m a (List.replicate (2 * e).toNat 0 ++ L) = (rings e m a L).map fun t => t + 2 * e := by
  refine sort_ext (rings_sort he hm) (by
    rw [List.pairwise_map]
    exact (rings_sort he hm).imp (fun h => by omega)) fun t => ?_
  rw [List.mem_map, mem_rings he hm, isR_iff]
  have hk : ((2 * e).toNat : Int) = 2 * e := by omega
  have hl : ((List.replicate (2 * e).toNat 0 ++ L).length : Int) = 2 * e + L.length := by rw [List.length_append, List.length_replicate]; omega
  rw [hl]
  constructor
  · rintro ⟨⟨i, rfl, h1⟩, h2, h3⟩
    have h0 : 0 ≤ (i : Int) * e := Int.mul_nonneg (by omega) (by omega)
    have hi : 2 ≤ i := by
      by_cases hi : 2 ≤ i
      · exact hi
      · have h4 := h3 0 (by omega)
        have h5 : (i : Int) * e ≤ 1 * e := Int.mul_le_mul_of_nonneg_right (by omega) (by omega)
        rw [lg_pre0 (by simp; omega) (by rw [hk]; simp; omega)] at h4
        omega
    have hmi : m - 1 ≤ i := Int.le_of_mul_le_mul_right h2 (by omega)
    have h6 : m - 1 ≤ (i : Int) - 2 := by
      by_cases h6 : m - 1 ≤ (i : Int) - 2
      · exact h6
      · have h7 := h3 (i - 1) (by omega)
        rw [sub_e (by omega), show i - (i - 1) = 1 by omega, lg_pre0 (by simp; omega) (by rw [hk]; simp; omega)] at h7
        omega
    have e2 : (i : Int) * e = ((i - 2 : Nat) : Int) * e + 2 * e := by
      rw [Int.ofNat_sub hi, Int.sub_mul]; omega
    refine ⟨((i - 2 : Nat) : Int) * e, ?_, by omega⟩
    rw [mem_rings he hm, isR_iff]
    have h8 : (m - 1) * e ≤ ((i - 2 : Nat) : Int) * e := Int.mul_le_mul_of_nonneg_right (by omega) (by omega)
    refine ⟨⟨i - 2, rfl, by omega⟩, h8, fun j hj => ?_⟩
    have hb := back_in he h8 hj
    have h9 := h3 j hj
    rw [lg_pre (by omega), hk] at h9
    rwa [show (i : Int) * e - (j : Int) * e - 2 * e = ((i - 2 : Nat) : Int) * e - (j : Int) * e by omega] at h9
  · rintro ⟨u, hu, rfl⟩
    rw [mem_rings he hm, isR_iff] at hu
    obtain ⟨⟨i, rfl, h1⟩, h2, h3⟩ := hu
    refine ⟨⟨i + 2, by rw [show ((i + 2 : Nat) : Int) = (i : Int) + 2 by omega, Int.add_mul], by omega⟩, by omega, fun j hj => ?_⟩
    have hb := back_in he h2 hj
    rw [lg_pre (by omega), hk, show (i : Int) * e + 2 * e - (j : Int) * e - 2 * e = (i : Int) * e - (j : Int) * e by omega]
    exact h3 j hj
end A
end
section
namespace A
open PySem Zd
set_option autoImplicit false
theorem f_check_claim {s f : Int} (xs : List D) (h0 : 0 ≤ s) (h1 : s ≤ 3) (h2 : 0 ≤ f) (h3 : f ≤ 9) : F_check_claim [.val (.ins 3 xs), iv s, iv f] = .ok [none, none, none] .non := by
  simp [cfOf, startE, fin_, outsOf, retag, findTag, dRet, dSeq, dEnd, dNever, dIte, dIf, dDrop, dFld, dSet, toB, dC, dName, dBl, dNot, dAnd, dOr, tAndD, tOrD, tNotD, dTru, dBoolC, boolD, dIsi, dIsi2, dIsC, tyN, isN, d2, d3, oV, oPl, aNil, aCons, aStar, seqOf, argB, argsB, ownPl, nodupB, wb, wb1, dCall, dMeth, oMake, oMake0, dSetFld, res, resAll, bV_val, bV_own, tD_lst, tD_ins, vals, dL, dLV, dTup, dLst, oLst, sz, ofO, leD, ltD, gtD, geD, i0D, iD, truD, isSq, lenD, dFz, R.bind, dAsg, gTp, gsCons, gsNil, gNm, dPar, setAll, dAug, dSetIx, isOwn, dApp, dFor, iVals, iRes, iSeq, dSl, pNo, pSome, cutD, dNeg, fdivD, modD, powD, mulA, mulI, addD, absD, intD, max2D, min2D, max3D, min3D, isND, notND, F_check_claim, D_check_claim, f_check_looks, f_check_step, f_is_number, h0, h1, h2, h3]
theorem f_check_stretch {s f : Int} (xs : List D) (h0 : 0 ≤ s) (h1 : s ≤ 3) (h2 : 1 ≤ f) (h3 : f ≤ 40) : F_check_stretch [.val (.ins 3 xs), iv s, iv f] = .ok [none, none, none] .non := by
  simp [cfOf, startE, fin_, outsOf, retag, findTag, dRet, dSeq, dEnd, dNever, dIte, dIf, dDrop, dFld, dSet, toB, dC, dName, dBl, dNot, dAnd, dOr, tAndD, tOrD, tNotD, dTru, dBoolC, boolD, dIsi, dIsi2, dIsC, tyN, isN, d2, d3, oV, oPl, aNil, aCons, aStar, seqOf, argB, argsB, ownPl, nodupB, wb, wb1, dCall, dMeth, oMake, oMake0, dSetFld, res, resAll, bV_val, bV_own, tD_lst, tD_ins, vals, dL, dLV, dTup, dLst, oLst, sz, ofO, leD, ltD, gtD, geD, i0D, iD, truD, isSq, lenD, dFz, R.bind, dAsg, gTp, gsCons, gsNil, gNm, dPar, setAll, dAug, dSetIx, isOwn, dApp, dFor, iVals, iRes, iSeq, dSl, pNo, pSome, cutD, dNeg, fdivD, modD, powD, mulA, mulI, addD, absD, intD, max2D, min2D, max3D, min3D, isND, notND, F_check_stretch, D_check_stretch, f_check_looks, f_check_step, f_is_number, vv_MOST_STRETCH, h0, h1, h2, h3]
def lb (e m a s : Int) : Int := if 0 < a + 1 - (if 1 < m then s * (e / 2) else 0) then a + 1 - (if 1 < m then s * (e / 2) else 0) else 0
theorem f_least_between {e m a s : Int} (h0 : 0 ≤ s) (h1 : s ≤ 3) : F_least_between [.val (LK e m a), iv s] = .ok [none, none] (.int (lb e m a s)) := by
  have ss : small64 s = true := by simp [small64]; omega
  have l2 : Nat.log2 2 < 9000 := by decide
  by_cases hm : 1 < m <;> by_cases hp : 0 < a + 1 - (if 1 < m then s * (e / 2) else 0) <;>
  simp [hm] at hp <;>
  simp [cfOf, startE, fin_, outsOf, retag, findTag, dRet, dSeq, dEnd, dNever, dIte, dIf, dDrop, dFld, dSet, toB, dC, dName, dBl, dNot, dAnd, dOr, tAndD, tOrD, tNotD, dTru, dBoolC, boolD, dIsi, dIsi2, dIsC, tyN, isN, d2, d3, oV, oPl, aNil, aCons, aStar, seqOf, argB, argsB, ownPl, nodupB, wb, wb1, dCall, dMeth, oMake, oMake0, dSetFld, res, resAll, bV_val, bV_own, tD_lst, tD_ins, vals, dL, dLV, dTup, dLst, oLst, sz, ofO, leD, ltD, gtD, geD, i0D, iD, truD, isSq, lenD, dFz, R.bind, dAsg, gTp, gsCons, gsNil, gNm, dPar, setAll, dAug, dSetIx, isOwn, dApp, dFor, iVals, iRes, iSeq, dSl, pNo, pSome, cutD, dNeg, fdivD, modD, powD, mulA, mulI, addD, absD, intD, max2D, min2D, max3D, min3D, isND, notND, F_least_between, D_least_between, f_check_looks, f_check_step, h0, h1, fp_many, fp_every, fp_above, ss, hm, lb, hp, l2]
def lr (e m s : Int) : Int := if 0 < s then e * m else if (m - 1) * e + 1 < e then e else (m - 1) * e + 1
theorem f_latest_ring {e m a s : Int} (h1 : 1 ≤ e) (h2 : e ≤ 6) (h3 : 1 ≤ m) (h4 : m ≤ 4) (h5 : 0 ≤ s) (h6 : s ≤ 3) : F_latest_ring [.val (LK e m a), iv s] = .ok [none, none] (.int (lr e m s)) := by
  have ss : small64 e = true := by simp [small64]; omega
  have hsp := f_span (a := a) h1 h2 h3 h4
  by_cases hs : 0 < s
  · simp [cfOf, startE, fin_, outsOf, retag, findTag, dRet, dSeq, dEnd, dNever, dIte, dIf, dDrop, dFld, dSet, toB, dC, dName, dBl, dNot, dAnd, dOr, tAndD, tOrD, tNotD, dTru, dBoolC, boolD, dIsi, dIsi2, dIsC, tyN, isN, d2, d3, oV, oPl, aNil, aCons, aStar, seqOf, argB, argsB, ownPl, nodupB, wb, wb1, dCall, dMeth, oMake, oMake0, dSetFld, res, resAll, bV_val, bV_own, tD_lst, tD_ins, vals, dL, dLV, dTup, dLst, oLst, sz, ofO, leD, ltD, gtD, geD, i0D, iD, truD, isSq, lenD, dFz, R.bind, dAsg, gTp, gsCons, gsNil, gNm, dPar, setAll, dAug, dSetIx, isOwn, dApp, dFor, iVals, iRes, iSeq, dSl, pNo, pSome, cutD, dNeg, fdivD, modD, powD, mulA, mulI, addD, absD, intD, max2D, min2D, max3D, min3D, isND, notND, F_latest_ring, D_latest_ring, f_check_looks, f_check_step, h5, h6, fp_many, fp_every, fp_above, ss, hs, lr]
  · by_cases hp : (m - 1) * e + 1 < e <;>
    simp [cfOf, startE, fin_, outsOf, retag, findTag, dRet, dSeq, dEnd, dNever, dIte, dIf, dDrop, dFld, dSet, toB, dC, dName, dBl, dNot, dAnd, dOr, tAndD, tOrD, tNotD, dTru, dBoolC, boolD, dIsi, dIsi2, dIsC, tyN, isN, d2, d3, oV, oPl, aNil, aCons, aStar, seqOf, argB, argsB, ownPl, nodupB, wb, wb1, dCall, dMeth, oMake, oMake0, dSetFld, res, resAll, bV_val, bV_own, tD_lst, tD_ins, vals, dL, dLV, dTup, dLst, oLst, sz, ofO, leD, ltD, gtD, geD, i0D, iD, truD, isSq, lenD, dFz, R.bind, dAsg, gTp, gsCons, gsNil, gNm, dPar, setAll, dAug, dSetIx, isOwn, dApp, dFor, iVals, iRes, iSeq, dSl, pNo, pSome, cutD, dNeg, fdivD, modD, powD, mulA, mulI, addD, absD, intD, max2D, min2D, max3D, min3D, isND, notND, F_latest_ring, D_latest_ring, f_check_looks, f_check_step, h5, h6, fp_many, fp_every, fp_above, ss, hs, lr, hp, M_span, hsp]
end A
end
section
namespace A
open PySem Zd
set_option autoImplicit false
theorem f_mk {e m a : Int} (h : Okl e m a) (t : Nat) : F_Looksdd_initdd [.own t (.ins 3 []), iv e, iv m, iv a] = .ok [some (.ins 3 [.int e, .int m, .int a]), none, none, none] .non := f_looks h.e1 h.e6 h.m1 h.m4 h.a0 h.a8 t
abbrev vT (L : List Int) : Option B := some (.val (tI L))
/-- `any tick not in c` for rings at slot 9 -/
theorem any_out {c : DEn} {Rg R' : List Int} {ρ : Zd.Env} (h10 : 10 < ρ.length) (h9 : ρ[9]? = some (vT Rg)) (hn : noOwn ρ [10] = true) (hl : Rg.length ≤ 1000)
    (hc : ∀ x ∈ Rg, c (ρ.set 10 (some (.val (.int x)))) = .ok (ρ.set 10 (some (.val (.int x))), tI R')) (hsub : ∀ t ∈ Rg, t ∈ R') :
    dBl (dL anyD (aCons (oLc (iSeq (dName 9)) [10] (gNm 10) tTrue (d2 (inD true) (oPl 10) (oV c))) aNil)) ρ = .ok (ρ, false) := by
  have e := lc_int (v := 10) (ρ := ρ) (di := iSeq (dName 9)) (t := tTrue) (c := d2 (inD true) (oPl 10) (oV c)) (Rg := Rg) (fun _ => true) (fun t => .bl (!decide (t ∈ R'))) h10 hn
    (by simp [iSeq, dName, h9, bV_val, seqOf, dL, R.bind])
    (fun x hx => rfl)
    (fun x hx _ => by simp [d2, oPl, oV, hc x hx, res, R.bind, bV_val, in_tI, h10, ofO])
    (by omega)
  have hf : Rg.filter (fun _ => true) = Rg := by simp
  have hz : Rg.any (fun t => !decide (t ∈ R')) = false := by
    rw [List.any_eq_false]
    intro x hx
    simp [hsub x hx]
  rw [hf] at e
  simp [dBl, dL, aCons, aNil, e, R.bind, resAll, res, ofO, tD_lst, any_bls, hz]
theorem or_no {a b : DTn} {ρ : Zd.Env} (ha : a ρ = .ok (ρ, false)) (hb : b ρ = .ok (ρ, false)) : tOrD a b ρ = .ok (ρ, false) := by simp [tOrD, ha, hb, R.bind]
theorem and_no {a b : DTn} {ρ : Zd.Env} (g : Bool) (ha : a ρ = .ok (ρ, g)) (hb : g = true → b ρ = .ok (ρ, false)) : tAndD a b ρ = .ok (ρ, false) := by
  cases g
  · simp [tAndD, ha, R.bind]
  · simp [tAndD, ha, hb, R.bind]
theorem not_no {a : DTn} {ρ : Zd.Env} (ha : a ρ = .ok (ρ, true)) : tNotD a ρ = .ok (ρ, false) := by simp [tNotD, ha, R.bind]
theorem ite_no {t : DTn} {b : DSn} {ρ : Zd.Env} (ha : t ρ = .ok (ρ, false)) : dIte t b (dEnd .nx) ρ = .ok (ρ, .nx) := by simp [dIte, ha, R.bind, dEnd]
theorem st4 {x0 x1 x2 x3 x4 x5 x6 x7 x8 x9 x10 x11 x12 x13 x14 x15 x16 x17 x18 x19 x20 x21 x22 x23 : Option B} {e m a s : Int} {L : List Int} (h : Okl e m a) (hL : InNine L) (l1 : 1 ≤ L.length) (l2 : L.length ≤ 80)
    (hn : noOwn [x0, x1, x2, x3, x4, x5, x6, x7, x8, x9, x10, x11, x12, x13, x14, x15, x16, x17, x18, x19, x20, x21, x22, x23] [10] = true) (hn11 : noOwn [x0, x1, x2, x3, x4, x5, x6, x7, x8, x9, x10, x11, x12, x13, x14, x15, x16, x17, x18, x19, x20, x21, x22, x23] [11] = true) :
    S_law_4 [x0, x1, x2, some (iv e), some (iv m), some (iv a), some (iv s), some (.val (LK e m a)), some (.val (tI L)), some (.val (tI (rings e m a L))), x10, x11, x12, x13, x14, x15, x16, x17, x18, x19, x20, x21, x22, x23] = .ok ([x0, x1, x2, some (iv e), some (iv m), some (iv a), some (iv s), some (.val (LK e m a)), some (.val (tI L)), some (.val (tI (rings e m a L))), x10, x11, x12, x13, x14, x15, x16, x17, x18, x19, x20, x21, x22, x23], .nx) := by
  have e1 := h.e1; have e6 := h.e6; have m1 := h.m1; have m4 := h.m4; have a0 := h.a0; have a8 := h.a8
  have hlen : (rings e m a L).length ≤ 1000 := Nat.le_trans (rings_len e1 m1) (by omega)
  have hn' : noOwn [x0, x1, x2, some (iv e), some (iv m), some (iv a), some (iv s), some (.val (LK e m a)), some (.val (tI L)), some (.val (tI (rings e m a L))), x10, x11, x12, x13, x14, x15, x16, x17, x18, x19, x20, x21, x22, x23] [10] = true := by simpa [noOwn] using hn
  have A1 : 1 < m → dBl (dL anyD (aCons (oLc (iSeq (dName 9)) [10] (gNm 10) tTrue (d2 (inD true) (oPl 10) (oV (dCall F_rings_of (aCons (oV (dFz (oMake 3 F_Looksdd_initdd (aCons (oPl 3) (aCons (oV (d2 (i0D fun i j => .int (i - j)) (oPl 4) (oV (dC (.int 1))))) (aCons (oPl 5) aNil)))))) (aCons (oPl 8) aNil)))))) aNil)) [x0, x1, x2, some (iv e), some (iv m), some (iv a), some (iv s), some (.val (LK e m a)), some (.val (tI L)), some (.val (tI (rings e m a L))), x10, x11, x12, x13, x14, x15, x16, x17, x18, x19, x20, x21, x22, x23] = .ok ([x0, x1, x2, some (iv e), some (iv m), some (iv a), some (iv s), some (.val (LK e m a)), some (.val (tI L)), some (.val (tI (rings e m a L))), x10, x11, x12, x13, x14, x15, x16, x17, x18, x19, x20, x21, x22, x23], false) := fun hm => by
    have h' : Okl e (m - 1) a := ⟨e1, e6, by omega, by omega, a0, a8⟩
    have hr := f_rings_of h' hL l1 l2
    have hk := f_mk h' 0
    refine any_out (R' := rings e (m - 1) a L) (by simp) rfl hn' hlen (fun x hx => ?_) (fun t ht => ?_)
    · generalize tI (rings e (m - 1) a L) = RR at hr
      generalize tI (rings e m a L) = RQ
      generalize tI L = TL at hr
      simp [cfOf, startE, fin_, outsOf, retag, findTag, dRet, dSeq, dEnd, dNever, dIte, dIf, dDrop, dFld, dSet, toB, dC, dName, dBl, dNot, dAnd, dOr, tAndD, tOrD, tNotD, dTru, dBoolC, boolD, dIsi, dIsi2, dIsC, tyN, isN, d2, d3, oV, oPl, aNil, aCons, aStar, seqOf, argB, argsB, ownPl, nodupB, wb, wb1, dCall, dMeth, oMake, oMake0, dSetFld, res, resAll, bV_val, bV_own, tD_lst, tD_ins, vals, dL, dLV, dTup, dLst, oLst, sz, ofO, leD, ltD, gtD, geD, i0D, iD, truD, isSq, lenD, dFz, R.bind, dAsg, gTp, gsCons, gsNil, gNm, dPar, setAll, dAug, dSetIx, isOwn, dApp, dFor, iVals, iRes, iSeq, dSl, pNo, pSome, cutD, dNeg, fdivD, modD, powD, mulA, mulI, addD, absD, intD, max2D, min2D, max3D, min3D, isND, notND, hk, hr]
    · rw [mem_rings e1 (by omega)] at ht ⊢
      exact ⟨ht.1, isR_sooner e1 ht.2 (by omega) (by omega)⟩
  have A2 : 0 < a → dBl (dL anyD (aCons (oLc (iSeq (dName 9)) [10] (gNm 10) tTrue (d2 (inD true) (oPl 10) (oV (dCall F_rings_of (aCons (oV (dFz (oMake 3 F_Looksdd_initdd (aCons (oPl 3) (aCons (oPl 4) (aCons (oV (d2 (i0D fun i j => .int (i - j)) (oPl 5) (oV (dC (.int 1))))) aNil)))))) (aCons (oPl 8) aNil)))))) aNil)) [x0, x1, x2, some (iv e), some (iv m), some (iv a), some (iv s), some (.val (LK e m a)), some (.val (tI L)), some (.val (tI (rings e m a L))), x10, x11, x12, x13, x14, x15, x16, x17, x18, x19, x20, x21, x22, x23] = .ok ([x0, x1, x2, some (iv e), some (iv m), some (iv a), some (iv s), some (.val (LK e m a)), some (.val (tI L)), some (.val (tI (rings e m a L))), x10, x11, x12, x13, x14, x15, x16, x17, x18, x19, x20, x21, x22, x23], false) := fun hm => by
    have h' : Okl e m (a - 1) := ⟨e1, e6, m1, m4, by omega, by omega⟩
    have hr := f_rings_of h' hL l1 l2
    have hk := f_mk h' 0
    refine any_out (R' := rings e m (a - 1) L) (by simp) rfl hn' hlen (fun x hx => ?_) (fun t ht => ?_)
    · generalize tI (rings e m (a - 1) L) = RR at hr
      generalize tI (rings e m a L) = RQ
      generalize tI L = TL at hr
      simp [cfOf, startE, fin_, outsOf, retag, findTag, dRet, dSeq, dEnd, dNever, dIte, dIf, dDrop, dFld, dSet, toB, dC, dName, dBl, dNot, dAnd, dOr, tAndD, tOrD, tNotD, dTru, dBoolC, boolD, dIsi, dIsi2, dIsC, tyN, isN, d2, d3, oV, oPl, aNil, aCons, aStar, seqOf, argB, argsB, ownPl, nodupB, wb, wb1, dCall, dMeth, oMake, oMake0, dSetFld, res, resAll, bV_val, bV_own, tD_lst, tD_ins, vals, dL, dLV, dTup, dLst, oLst, sz, ofO, leD, ltD, gtD, geD, i0D, iD, truD, isSq, lenD, dFz, R.bind, dAsg, gTp, gsCons, gsNil, gNm, dPar, setAll, dAug, dSetIx, isOwn, dApp, dFor, iVals, iRes, iSeq, dSl, pNo, pSome, cutD, dNeg, fdivD, modD, powD, mulA, mulI, addD, absD, intD, max2D, min2D, max3D, min3D, isND, notND, hk, hr]
    · rw [mem_rings e1 (by omega)] at ht ⊢
      exact ⟨ht.1, isR_sooner e1 ht.2 (by omega) (by omega)⟩
  have A3 : dBl (dL anyD (aCons (oLc (iSeq (dName 9)) [10] (gNm 10) tTrue (d2 (inD true) (oPl 10) (oV (dCall F_rings_of (aCons (oPl 7) (aCons (oV (dL tupleD (aCons (oLc (iSeq (dName 8)) [11] (gNm 11) tTrue (dL minD (aCons (oLst (aCons (oV (dC (.int 9))) (aCons (oV (d2 addD (oPl 11) (oV (dC (.int 1))))) aNil))) aNil))) aNil))) aNil)))))) aNil)) [x0, x1, x2, some (iv e), some (iv m), some (iv a), some (iv s), some (.val (LK e m a)), some (.val (tI L)), some (.val (tI (rings e m a L))), x10, x11, x12, x13, x14, x15, x16, x17, x18, x19, x20, x21, x22, x23] = .ok ([x0, x1, x2, some (iv e), some (iv m), some (iv a), some (iv s), some (.val (LK e m a)), some (.val (tI L)), some (.val (tI (rings e m a L))), x10, x11, x12, x13, x14, x15, x16, x17, x18, x19, x20, x21, x22, x23], false) := by
    have hr := f_rings_of (L := L.map fun x => if x + 1 < 9 then x + 1 else 9) h (fun z hz => by
      obtain ⟨y, hy, rfl⟩ := List.mem_map.mp hz
      have := hL y hy
      by_cases hc : y + 1 < 9
      · rw [if_pos hc]; omega
      · rw [if_neg hc]; omega) (by simpa using l1) (by simpa using l2)
    refine any_out (R' := rings e m a (L.map fun x => if x + 1 < 9 then x + 1 else 9)) (by simp) rfl hn' hlen (fun x hx => ?_) (fun t ht => ?_)
    · have hc := lc_int (v := 11) (ρ := [x0, x1, x2, some (iv e), some (iv m), some (iv a), some (iv s), some (.val (LK e m a)), some (.val (tI L)), some (.val (tI (rings e m a L))), some (.val (.int x)), x11, x12, x13, x14, x15, x16, x17, x18, x19, x20, x21, x22, x23]) (di := iSeq (dName 8)) (t := tTrue)
        (c := dL minD (aCons (oLst (aCons (oV (dC (.int 9))) (aCons (oV (d2 addD (oPl 11) (oV (dC (.int 1))))) aNil))) aNil)) (Rg := L) (fun _ => true) (fun t => .int (if t + 1 < 9 then t + 1 else 9)) (by simp) (by simpa [noOwn] using hn11)
        (by simp [iSeq, dName, bV_val, seqOf, dL, R.bind]) (fun x hx => rfl)
        (fun x hx _ => by
          have e9 : minD [.lst [.int 9, .int (x + 1)]] = some (.int (if x + 1 < 9 then x + 1 else 9)) := rfl
          generalize tI L = TL
          generalize tI (rings e m a L) = RQ
          simp [cfOf, startE, fin_, outsOf, retag, findTag, dRet, dSeq, dEnd, dNever, dIte, dIf, dDrop, dFld, dSet, toB, dC, dName, dBl, dNot, dAnd, dOr, tAndD, tOrD, tNotD, dTru, dBoolC, boolD, dIsi, dIsi2, dIsC, tyN, isN, d2, d3, oV, oPl, aNil, aCons, aStar, seqOf, argB, argsB, ownPl, nodupB, wb, wb1, dCall, dMeth, oMake, oMake0, dSetFld, res, resAll, bV_val, bV_own, tD_lst, tD_ins, vals, dL, dLV, dTup, dLst, oLst, sz, ofO, leD, ltD, gtD, geD, i0D, iD, truD, isSq, dFz, R.bind, dAsg, gTp, gsCons, gsNil, gNm, dPar, setAll, dAug, dSetIx, isOwn, dApp, dFor, iVals, iRes, iSeq, dSl, pNo, pSome, cutD, dNeg, fdivD, modD, mulA, mulI, absD, intD, max2D, min2D, max3D, min3D, isND, notND, addD, e9]) (by omega)
      have hf : (L.filter fun _ => true) = L := by simp
      rw [hf] at hc
      have ht : tupleD [.lst (L.map fun t => D.int (if t + 1 < 9 then t + 1 else 9))] = some (tI (L.map fun x => if x + 1 < 9 then x + 1 else 9)) := by
        simp [tupleD, tI, seqOf, isSq]
      generalize tI (L.map fun x => if x + 1 < 9 then x + 1 else 9) = TM at hr ht
      generalize tI (rings e m a (L.map fun x => if x + 1 < 9 then x + 1 else 9)) = RR at hr
      generalize tI (rings e m a L) = RQ at hc
      generalize tI L = TL at hc
      simp [cfOf, startE, fin_, outsOf, retag, findTag, dRet, dSeq, dEnd, dNever, dIte, dIf, dDrop, dFld, dSet, toB, dC, dName, dBl, dNot, dAnd, dOr, tAndD, tOrD, tNotD, dTru, dBoolC, boolD, dIsi, dIsi2, dIsC, tyN, isN, d2, d3, oV, oPl, aNil, aCons, aStar, seqOf, argB, argsB, ownPl, nodupB, wb, wb1, dCall, dMeth, oMake, oMake0, dSetFld, res, resAll, bV_val, bV_own, tD_lst, tD_ins, vals, dL, dLV, dTup, dLst, oLst, sz, ofO, leD, ltD, gtD, geD, i0D, iD, truD, isSq, lenD, dFz, R.bind, dAsg, gTp, gsCons, gsNil, gNm, dPar, setAll, dAug, dSetIx, isOwn, dApp, dFor, iVals, iRes, iSeq, dSl, pNo, pSome, cutD, dNeg, fdivD, modD, powD, mulA, mulI, addD, absD, intD, max2D, min2D, max3D, min3D, isND, notND, hc, hr, ht]
    · rw [mem_rings e1 (by omega)] at ht ⊢
      obtain ⟨⟨i, rfl, h1⟩, h2⟩ := ht
      exact ⟨⟨i, rfl, by simpa using h1⟩, isR_raised e1 (Int.mul_nonneg (by omega) (by omega)) h1 a8 h2⟩
  unfold S_law_4
  refine ite_no (or_no (and_no (decide (1 < m)) ?_ (fun g => A1 (by simpa using g))) (or_no (and_no (decide (0 < a)) ?_ (fun g => A2 (by simpa using g))) A3))
  · generalize tI L = TL
    generalize tI (rings e m a L) = RQ
    simp [cfOf, startE, fin_, outsOf, retag, findTag, dRet, dSeq, dEnd, dNever, dIte, dIf, dDrop, dFld, dSet, toB, dC, dName, dBl, dNot, dAnd, dOr, tAndD, tOrD, tNotD, dTru, dBoolC, boolD, dIsi, dIsi2, dIsC, tyN, isN, d2, d3, oV, oPl, aNil, aCons, aStar, seqOf, argB, argsB, ownPl, nodupB, wb, wb1, dCall, dMeth, oMake, oMake0, dSetFld, res, resAll, bV_val, bV_own, tD_lst, tD_ins, vals, dL, dLV, dTup, dLst, oLst, sz, ofO, leD, ltD, gtD, geD, i0D, iD, truD, isSq, lenD, dFz, R.bind, dAsg, gTp, gsCons, gsNil, gNm, dPar, setAll, dAug, dSetIx, isOwn, dApp, dFor, iVals, iRes, iSeq, dSl, pNo, pSome, cutD, dNeg, fdivD, modD, powD, mulA, mulI, addD, absD, intD, max2D, min2D, max3D, min3D, isND, notND]
  · generalize tI L = TL
    generalize tI (rings e m a L) = RQ
    simp [cfOf, startE, fin_, outsOf, retag, findTag, dRet, dSeq, dEnd, dNever, dIte, dIf, dDrop, dFld, dSet, toB, dC, dName, dBl, dNot, dAnd, dOr, tAndD, tOrD, tNotD, dTru, dBoolC, boolD, dIsi, dIsi2, dIsC, tyN, isN, d2, d3, oV, oPl, aNil, aCons, aStar, seqOf, argB, argsB, ownPl, nodupB, wb, wb1, dCall, dMeth, oMake, oMake0, dSetFld, res, resAll, bV_val, bV_own, tD_lst, tD_ins, vals, dL, dLV, dTup, dLst, oLst, sz, ofO, leD, ltD, gtD, geD, i0D, iD, truD, isSq, lenD, dFz, R.bind, dAsg, gTp, gsCons, gsNil, gNm, dPar, setAll, dAug, dSetIx, isOwn, dApp, dFor, iVals, iRes, iSeq, dSl, pNo, pSome, cutD, dNeg, fdivD, modD, powD, mulA, mulI, addD, absD, intD, max2D, min2D, max3D, min3D, isND, notND]
end A
end
section
namespace A
open PySem Zd
set_option autoImplicit false
theorem rep_flat {α : Type} (x : α) : ∀ k : Nat, (List.replicate k [x]).flatten = List.replicate k x
  | 0 => rfl
  | k + 1 => by simp [List.replicate_succ, rep_flat x k]
theorem mul_zeros {k : Int} (h1 : 1 ≤ k) (h2 : k ≤ 1000) (z : Int) : mulA (.tup [.int z]) (.int k) = some (tI (List.replicate k.toNat z)) := by
  simp [mulA, h1, h2, rep_flat]
theorem add_tI {L M : List Int} (h : L.length + M.length ≤ 1000000) : addD (tI L) (tI M) = some (tI (L ++ M)) := by
  simp [addD, h]
theorem sIx_in {n d : Nat} {c : Int} (h0 : 0 ≤ c) (h1 : c ≤ n) : HT.sIx n d (some c) = c.toNat := by
  show (if c < 0 then _ else _) = _
  rw [if_neg (by omega)]
  omega
theorem sIx_no {n d : Nat} : HT.sIx n d none = d := rfl
theorem cut_take {L : List Int} {c : Int} (h0 : 0 ≤ c) (h1 : c ≤ L.length) : cutD (tI L) none (some c) = some (tI (L.take c.toNat)) := by
  simp only [cutD, tI, cut, List.length_map, sIx_in h0 h1, sIx_no, List.drop_zero, Nat.sub_zero, List.map_take]
theorem cut_tup {L : List Int} {b c : Int} (h0 : 0 ≤ b) (h1 : b ≤ L.length) (h2 : 0 ≤ c) (h3 : c ≤ L.length) : cutD (tI L) (some b) (some c) = some (tI ((L.drop b.toNat).take (c.toNat - b.toNat))) := by
  simp only [cutD, tI, cut, List.length_map, sIx_in h0 h1, sIx_in h2 h3, List.map_take, List.map_drop]
theorem cut_lst {L : List Int} {b c : Int} (h0 : 0 ≤ b) (h1 : b ≤ L.length) (h2 : 0 ≤ c) (h3 : c ≤ L.length) : cutD (fI L) (some b) (some c) = some (fI ((L.drop b.toNat).take (c.toNat - b.toNat))) := by
  simp only [cutD, fI, cut, List.length_map, sIx_in h0 h1, sIx_in h2 h3, List.map_take, List.map_drop]
theorem cut_end {L : List Int} {b : Int} (h0 : 0 ≤ b) (h1 : b ≤ L.length) : cutD (fI L) (some b) none = some (fI (L.drop b.toNat)) := by
  simp only [cutD, fI, cut, List.length_map, sIx_in h0 h1, sIx_no, List.map_drop]
  rw [List.take_of_length_le (by simp)]
theorem inNine_take {L : List Int} {c : Nat} (h : InNine L) : InNine (L.take c) := fun z hz => h z (List.mem_of_mem_take hz)
theorem all_of {o : DOn} {ρ : Zd.Env} {α : Type} {L : List α} (p : α → Bool) (h : o ρ = .ok (ρ, .fr (.lst (L.map fun t => D.bl (p t))))) : dBl (dL allD (aCons o aNil)) ρ = .ok (ρ, L.all p) := by
  simp [dBl, dL, aCons, aNil, h, R.bind, resAll, res, ofO, tD_lst, all_bls]
theorem any_of {o : DOn} {ρ : Zd.Env} {α : Type} {L : List α} (p : α → Bool) (h : o ρ = .ok (ρ, .fr (.lst (L.map fun t => D.bl (p t))))) : dBl (dL anyD (aCons o aNil)) ρ = .ok (ρ, L.any p) := by
  simp [dBl, dL, aCons, aNil, h, R.bind, resAll, res, ofO, tD_lst, any_bls]
theorem log_ok {e : Int} (h1 : 1 ≤ e) (h6 : e ≤ 6) : Nat.log2 e.natAbs < 9000 := by
  have : e = 1 ∨ e = 2 ∨ e = 3 ∨ e = 4 ∨ e = 5 ∨ e = 6 := by omega
  rcases this with rfl | rfl | rfl | rfl | rfl | rfl <;> decide
theorem eq_int (a b : Int) : eqD (.int a) (.int b) = some (.bl (decide (a = b))) := by
  show (if _ then _ else _) = _
  rw [if_pos ⟨fine_int a, fine_int b⟩]
  by_cases h : a = b <;> simp [D.eqb, h]
theorem st6 {x0 x1 x2 x3 x4 x5 x6 x7 x8 x9 x10 x11 x12 x13 x14 x15 x16 x17 x18 x19 x20 x21 x22 x23 : Option B} {e m a s cut : Int} {L : List Int} (h : Okl e m a) (hL : InNine L) (l1 : 1 ≤ L.length) (l2 : L.length ≤ 40) (c0 : 1 ≤ cut) (c1 : cut ≤ L.length)
    (hn : noOwn [x0, x1, x2, x3, x4, x5, x6, x7, x8, x9, x10, x11, x12, x13, x14, x15, x16, x17, x18, x19, x20, x21, x22, x23] [10] = true) :
    S_law_6 [x0, x1, x2, some (iv e), some (iv m), some (iv a), some (iv s), some (.val (LK e m a)), some (.val (tI L)), some (.val (tI (rings e m a L))), x10, x11, some (iv cut), x13, x14, x15, x16, x17, x18, x19, x20, x21, x22, x23] = .ok ([x0, x1, x2, some (iv e), some (iv m), some (iv a), some (iv s), some (.val (LK e m a)), some (.val (tI L)), some (.val (tI (rings e m a L))), x10, x11, some (iv cut), x13, x14, x15, x16, x17, x18, x19, x20, x21, x22, x23], .nx) := by
  have e1 := h.e1; have e6 := h.e6; have m1 := h.m1; have m4 := h.m4; have a0 := h.a0; have a8 := h.a8
  have hlen : (rings e m a L).length ≤ 1000 := Nat.le_trans (rings_len e1 m1) (by omega)
  have hn' : noOwn [x0, x1, x2, some (iv e), some (iv m), some (iv a), some (iv s), some (.val (LK e m a)), some (.val (tI L)), some (.val (tI (rings e m a L))), x10, x11, some (iv cut), x13, x14, x15, x16, x17, x18, x19, x20, x21, x22, x23] [10] = true := by simpa [noOwn] using hn
  have hd : iSeq (dName 9) [x0, x1, x2, some (iv e), some (iv m), some (iv a), some (iv s), some (.val (LK e m a)), some (.val (tI L)), some (.val (tI (rings e m a L))), x10, x11, some (iv cut), x13, x14, x15, x16, x17, x18, x19, x20, x21, x22, x23] = .ok ([x0, x1, x2, some (iv e), some (iv m), some (iv a), some (iv s), some (.val (LK e m a)), some (.val (tI L)), some (.val (tI (rings e m a L))), x10, x11, some (iv cut), x13, x14, x15, x16, x17, x18, x19, x20, x21, x22, x23], (rings e m a L).map D.int) := by
    simp [iSeq, dName, bV_val, seqOf, dL, R.bind]
  have s64e : small64 e = true := s64 (by omega) (by omega)
  have s642 : small64 2 = true := by decide
  refine ite_no (or_no ?_ (or_no ?_ (not_no ?_)))
  · have c := lc_int (v := 10) (t := dBl (d2 ltD (oPl 10) (oPl 12))) (c := dName 10) (fun t => decide (t < cut)) (fun t => .int t) (by simp) hn' hd
      (fun x hx => by
        generalize tI L = TL
        generalize tI (rings e m a L) = RQ
        simp [cfOf, startE, fin_, outsOf, retag, findTag, dRet, dSeq, dEnd, dNever, dIte, dIf, dDrop, dFld, dSet, toB, dC, dName, dBl, dNot, dAnd, dOr, tAndD, tOrD, tNotD, dTru, dBoolC, boolD, dIsi, dIsi2, dIsC, tyN, isN, d2, d3, oV, oPl, aNil, aCons, aStar, seqOf, argB, argsB, ownPl, nodupB, wb, wb1, dCall, dMeth, oMake, oMake0, dSetFld, res, resAll, bV_val, bV_own, tD_lst, tD_ins, vals, dL, dLV, dTup, dLst, oLst, sz, ofO, leD, ltD, gtD, geD, i0D, iD, truD, isSq, lenD, dFz, R.bind, dAsg, gTp, gsCons, gsNil, gNm, dPar, setAll, dAug, dSetIx, isOwn, dApp, dFor, iVals, iRes, iSeq, dSl, pNo, pSome, cutD, dNeg, fdivD, modD, powD, mulA, mulI, addD, absD, intD, max2D, min2D, max3D, min3D, isND, notND])
      (fun x hx _ => by
        generalize tI L = TL
        generalize tI (rings e m a L) = RQ
        simp [cfOf, startE, fin_, outsOf, retag, findTag, dRet, dSeq, dEnd, dNever, dIte, dIf, dDrop, dFld, dSet, toB, dC, dName, dBl, dNot, dAnd, dOr, tAndD, tOrD, tNotD, dTru, dBoolC, boolD, dIsi, dIsi2, dIsC, tyN, isN, d2, d3, oV, oPl, aNil, aCons, aStar, seqOf, argB, argsB, ownPl, nodupB, wb, wb1, dCall, dMeth, oMake, oMake0, dSetFld, res, resAll, bV_val, bV_own, tD_lst, tD_ins, vals, dL, dLV, dTup, dLst, oLst, sz, ofO, leD, ltD, gtD, geD, i0D, iD, truD, isSq, lenD, dFz, R.bind, dAsg, gTp, gsCons, gsNil, gNm, dPar, setAll, dAug, dSetIx, isOwn, dApp, dFor, iVals, iRes, iSeq, dSl, pNo, pSome, cutD, dNeg, fdivD, modD, powD, mulA, mulI, addD, absD, intD, max2D, min2D, max3D, min3D, isND, notND]) (by omega)
    have hcl : (L.take cut.toNat).length = cut.toNat := by rw [List.length_take]; omega
    have hr := f_rings_of (L := L.take cut.toNat) h (inNine_take hL) (by omega) (by omega)
    have hk := cut_take (L := L) (c := cut) (by omega) c1
    have hx := rings_cut (a := a) (L := L) (c := cut.toNat) e1 m1 (by omega)
    rw [show ((cut.toNat : Nat) : Int) = cut by omega] at hx
    rw [hx] at hr
    have hne := ne_tI ((rings e m a L).filter fun t => decide (t < cut)) ((rings e m a L).filter fun t => decide (t < cut))
    have ht : tupleD [.lst (((rings e m a L).filter fun t => decide (t < cut)).map fun t => D.int t)] = some (tI ((rings e m a L).filter fun t => decide (t < cut))) := rfl
    generalize (((rings e m a L).filter fun t => decide (t < cut)).map fun t => D.int t) = R1 at c ht
    generalize tI ((rings e m a L).filter fun t => decide (t < cut)) = R2 at hr ht hne
    generalize tI (L.take cut.toNat) = TC at hr hk
    generalize tI (rings e m a L) = RQ at c
    generalize tI L = TL at c hk
    simp [cfOf, startE, fin_, outsOf, retag, findTag, dRet, dSeq, dEnd, dNever, dIte, dIf, dDrop, dFld, dSet, toB, dC, dName, dBl, dNot, dAnd, dOr, tAndD, tOrD, tNotD, dTru, dBoolC, boolD, dIsi, dIsi2, dIsC, tyN, isN, d2, d3, oV, oPl, aNil, aCons, aStar, seqOf, argB, argsB, ownPl, nodupB, wb, wb1, dCall, dMeth, oMake, oMake0, dSetFld, res, resAll, bV_val, bV_own, tD_lst, tD_ins, vals, dL, dLV, dTup, dLst, oLst, sz, ofO, leD, ltD, gtD, geD, i0D, iD, truD, isSq, lenD, dFz, R.bind, dAsg, gTp, gsCons, gsNil, gNm, dPar, setAll, dAug, dSetIx, isOwn, dApp, dFor, iVals, iRes, iSeq, dSl, pNo, pSome, dNeg, fdivD, modD, powD, mulA, mulI, addD, absD, intD, max2D, min2D, max3D, min3D, isND, notND, c, hk, hr, ht, hne]
  · have c := lc_int (v := 10) (t := tTrue) (c := d2 addD (oPl 10) (oV (d2 mulA (oV (dC (.int 2))) (oPl 3)))) (fun t => true) (fun t => .int (t + 2 * e)) (by simp) hn' hd (fun x hx => rfl)
      (fun x hx _ => by
        generalize tI L = TL
        generalize tI (rings e m a L) = RQ
        simp [cfOf, startE, fin_, outsOf, retag, findTag, dRet, dSeq, dEnd, dNever, dIte, dIf, dDrop, dFld, dSet, toB, dC, dName, dBl, dNot, dAnd, dOr, tAndD, tOrD, tNotD, dTru, dBoolC, boolD, dIsi, dIsi2, dIsC, tyN, isN, d2, d3, oV, oPl, aNil, aCons, aStar, seqOf, argB, argsB, ownPl, nodupB, wb, wb1, dCall, dMeth, oMake, oMake0, dSetFld, res, resAll, bV_val, bV_own, tD_lst, tD_ins, vals, dL, dLV, dTup, dLst, oLst, sz, ofO, leD, ltD, gtD, geD, i0D, iD, truD, isSq, lenD, dFz, R.bind, dAsg, gTp, gsCons, gsNil, gNm, dPar, setAll, dAug, dSetIx, isOwn, dApp, dFor, iVals, iRes, iSeq, dSl, pNo, pSome, cutD, dNeg, fdivD, modD, powD, mulA, mulI, addD, absD, intD, max2D, min2D, max3D, min3D, isND, notND, s64e, s642]) (by omega)
    have hf : (rings e m a L).filter (fun _ => true) = rings e m a L := by simp
    rw [hf] at c
    have hz : mulA (.tup [.int 0]) (.int (2 * e)) = _ := mul_zeros (by omega) (by omega) 0
    have hc := add_tI (L := List.replicate (2 * e).toNat 0) (M := L) (by rw [List.length_replicate]; omega)
    have hll : (List.replicate (2 * e).toNat 0 ++ L).length = (2 * e).toNat + L.length := by rw [List.length_append, List.length_replicate]
    have hr := f_rings_of (L := List.replicate (2 * e).toNat 0 ++ L) h (fun z hz => by
      rcases List.mem_append.mp hz with hz | hz
      · rw [List.eq_of_mem_replicate hz]; omega
      · exact hL z hz) (by omega) (by omega)
    rw [rings_shift e1 m1 a0] at hr
    have hne := ne_tI ((rings e m a L).map fun t => t + 2 * e) ((rings e m a L).map fun t => t + 2 * e)
    have ht : tupleD [.lst ((rings e m a L).map fun t => D.int (t + 2 * e))] = some (tI ((rings e m a L).map fun t => t + 2 * e)) := by simp [tupleD, tI, seqOf, isSq]
    have h22 : mulA (.int 2) (.int e) = some (.int (2 * e)) := by simp [mulA, mulI, iD, s642]
    generalize ((rings e m a L).map fun t => D.int (t + 2 * e)) = R1 at c ht
    generalize tI ((rings e m a L).map fun t => t + 2 * e) = R2 at hr ht hne
    generalize tI (List.replicate (2 * e).toNat 0 ++ L) = TC at hr hc
    generalize tI (List.replicate (2 * e).toNat 0) = TZ at hz hc
    generalize tI (rings e m a L) = RQ at c
    generalize tI L = TL at c hc
    simp [cfOf, startE, fin_, outsOf, retag, findTag, dRet, dSeq, dEnd, dNever, dIte, dIf, dDrop, dFld, dSet, toB, dC, dName, dBl, dNot, dAnd, dOr, tAndD, tOrD, tNotD, dTru, dBoolC, boolD, dIsi, dIsi2, dIsC, tyN, isN, d2, d3, oV, oPl, aNil, aCons, aStar, seqOf, argB, argsB, ownPl, nodupB, wb, wb1, dCall, dMeth, oMake, oMake0, dSetFld, res, resAll, bV_val, bV_own, tD_lst, tD_ins, vals, dL, dLV, dTup, dLst, oLst, sz, ofO, leD, ltD, gtD, geD, i0D, iD, truD, isSq, lenD, dFz, R.bind, dAsg, gTp, gsCons, gsNil, gNm, dPar, setAll, dAug, dSetIx, isOwn, dApp, dFor, iVals, iRes, iSeq, dSl, pNo, pSome, cutD, dNeg, fdivD, modD, powD, mulI, absD, intD, max2D, min2D, max3D, min3D, isND, notND, c, hz, hc, hr, ht, hne, h22]
  · have c := lc_int (v := 10) (t := tTrue) (c := dAnd (d2 eqD (oV (d2 (i0D fun i j => .int (i - j)) (oPl 10) (oV (d2 mulA (oPl 3) (oV (d2 fdivD (oPl 10) (oPl 3))))))) (oV (dC (.int 0)))) (d2 geD (oPl 10) (oV (dMeth M_span (oPl 7) aNil)))) (fun t => true) (fun t => .bl true) (by simp) hn' hd (fun x hx => rfl)
      (fun x hx _ => by
        have hx' := (mem_rings e1 m1).mp hx
        obtain ⟨⟨i, hi, h1⟩, h2⟩ := hx'
        have h3 := (isR_iff.mp h2).1
        have hsp := f_span (a := a) e1 e6 m1 m4
        have hq : x / e = i := by rw [hi]; exact Int.mul_ediv_cancel _ (by omega)
        have hxe : x - e * (x / e) = 0 := by rw [hq, hi, Int.mul_comm]; omega
        have s64q := log_ok e1 e6
        have q1 : ∀ z : Int, eqD (.int z) (.int 0) = some (.bl (decide (z = 0))) := fun z => eq_int z 0
        have q2 : 0 < e := by omega
        generalize tI L = TL
        generalize tI (rings e m a L) = RQ
        simp [cfOf, startE, fin_, outsOf, retag, findTag, dRet, dSeq, dEnd, dNever, dIte, dIf, dDrop, dFld, dSet, toB, dC, dName, dBl, dNot, dAnd, dOr, tAndD, tOrD, tNotD, dTru, dBoolC, boolD, dIsi, dIsi2, dIsC, tyN, isN, d2, d3, oV, oPl, aNil, aCons, aStar, seqOf, argB, argsB, ownPl, nodupB, wb, wb1, dCall, dMeth, oMake, oMake0, dSetFld, res, resAll, bV_val, bV_own, tD_lst, tD_ins, vals, dL, dLV, dTup, dLst, oLst, sz, ofO, leD, ltD, gtD, geD, i0D, iD, truD, isSq, lenD, dFz, R.bind, dAsg, gTp, gsCons, gsNil, gNm, dPar, setAll, dAug, dSetIx, isOwn, dApp, dFor, iVals, iRes, iSeq, dSl, pNo, pSome, cutD, dNeg, fdivD, modD, powD, mulA, mulI, addD, absD, intD, max2D, min2D, max3D, min3D, isND, notND, s64e, hsp, M_span, h3, hxe, s64q, q1, q2])
      (by omega)
    have hf : (rings e m a L).filter (fun _ => true) = rings e m a L := by simp
    rw [hf] at c
    have hz := all_of (fun _ => true) c
    rw [hz]
    simp
end A
end
section
namespace A
open PySem Zd
set_option autoImplicit false
def pr (p : Int × Int) : D := .tup [.int p.1, .int p.2]
def rI (b e : Int) : List Int := (List.range (e - b).toNat).map fun (i : Nat) => b + (i : Int)
theorem rI_snoc {b e : Int} (h : b ≤ e) : rI b (e + 1) = rI b e ++ [e] := by
  unfold rI
  rw [show (e + 1 - b).toNat = (e - b).toNat + 1 by omega, List.range_succ, List.map_append]
  congr 1
  simp
  omega
def upTo (a : Int) (L : List Int) (k : Nat) : List Int := ((List.range k).map fun (i : Nat) => (i : Int)).filter fun t => decide (a < lg L t)
structure Str (a : Int) (L : List Int) (k : Nat) (F : List (Int × Int)) : Prop where
  flat : (F.map fun p => rI p.1 p.2).flatten = upTo a L k
  inn : ∀ p ∈ F, 0 ≤ p.1 ∧ p.1 < p.2 ∧ p.2 ≤ k
  len : F.length ≤ k
theorem str_no {a : Int} {L : List Int} {k : Nat} {F : List (Int × Int)} (h : Str a L k F) (hn : ¬ a < lg L k) : Str a L (k + 1) F := ⟨by
  rw [h.flat]; simp [upTo, List.range_succ, hn], fun p hp => by have := h.inn p hp; omega, by have := h.len; omega⟩
theorem str_new {a : Int} {L : List Int} {k : Nat} {F : List (Int × Int)} (h : Str a L k F) (hn : a < lg L k) : Str a L (k + 1) (F ++ [((k : Int), (k : Int) + 1)]) := ⟨by
  rw [List.map_append, List.flatten_append, h.flat]
  simp only [upTo, List.range_succ, List.map_append, List.filter_append]
  congr 1
  have : rI k (k + 1) = [(k : Int)] := by rw [rI_snoc (Int.le_refl _)]; simp [rI]
  simp [this, hn], fun p hp => by
  rcases List.mem_append.mp hp with hp | hp
  · have := h.inn p hp; omega
  · rw [List.mem_singleton.mp hp]; exact ⟨by simp, by simp; omega, by simp⟩, by have := h.len; simp; omega⟩
theorem str_more {a b : Int} {L : List Int} {k : Nat} {G : List (Int × Int)} (h : Str a L k (G ++ [(b, (k : Int))])) (hn : a < lg L k) : Str a L (k + 1) (G ++ [(b, (k : Int) + 1)]) := ⟨by
  have hb := h.inn (b, k) (by simp)
  have hf := h.flat
  rw [List.map_append, List.flatten_append] at hf ⊢
  simp only [upTo, List.range_succ, List.map_append, List.filter_append] at hf ⊢
  rw [← hf]
  simp only [List.map_cons, List.map_nil, List.flatten_cons, List.flatten_nil, List.append_nil]
  rw [rI_snoc (by simp at hb; omega)]
  simp [hn], fun p hp => by
  rcases List.mem_append.mp hp with hp | hp
  · have := h.inn p (List.mem_append_left _ hp); omega
  · have hb := h.inn (b, k) (by simp)
    rw [List.mem_singleton.mp hp]; simp at hb ⊢; omega, by have := h.len; simp at this ⊢; omega⟩
end A
end
section
namespace A
open PySem Zd
set_option autoImplicit false
theorem flats_pr : ∀ F : List (Int × Int), D.flats (F.map pr) = true
  | [] => rfl
  | x :: L => by simp [D.flats, D.flat, flats_pr L, pr]
theorem depth_pr : ∀ F : List (Int × Int), PyData.depthAll (D.pys (F.map pr)) ≤ 3
  | [] => by simp [D.pys, PyData.depthAll]
  | x :: L => by
    have := depth_pr L
    simp only [List.map_cons, D.pys, PyData.depthAll, D.py, PyData.depth, pr]
    omega
theorem fine_pr (F : List (Int × Int)) : (D.lst (F.map pr)).fine = true := by
  have := depth_pr F
  simp [D.fine, D.flat, flats_pr, D.py, PyData.depth]
  omega
theorem ne_pr (F : List (Int × Int)) : neD (.lst (F.map pr)) (.lst []) = some (.bl (!F.isEmpty)) := by
  show (if _ then _ else _) = _
  rw [if_pos ⟨fine_pr F, fine_pr []⟩]
  cases F <;> simp [D.eqb, D.eqbs]
theorem ix_lastD {F : List D} {z : D} : ixD (.lst (F ++ [z])) (.int (-1)) = some z := by
  have c1 : ¬ ((0 : Int) ≤ -1) := by omega
  have c2 : -((F ++ [z]).length : Int) ≤ -1 := by simp; omega
  have c3 : ((-1 : Int) + ((F ++ [z]).length : Int)).toNat = F.length := by simp; omega
  show L2.atI (F ++ [z]) (-1) = _
  unfold L2.atI L2.ixN
  rw [if_neg c1, if_pos c2, c3]
  simp
theorem ixN_last {n : Nat} : L2.ixN (n + 1) (-1) = some n := by
  simp [L2.ixN]
  omega
theorem loop_str {a : Int} {L : List Int} {TL : D} (hl : L.length ≤ 1000) : ∀ (zs : List Int) (k : Nat) (F : List (Int × Int)) (x3 x4 : Option B), L.drop k = zs → k ≤ L.length → Str a L k F → ∃ (F' : List (Int × Int)) (x3' x4' : Option B), Str a L L.length F' ∧
    fl (gTp (gsCons (gNm 3) (gsCons (gNm 4) gsNil)))
    (dIte (dBl (d2 gtD (oPl 4) (oPl 1))) (dIte (tAndD (dBl (d2 neD (oPl 2) (oLst aNil))) (dBl (d2 eqD (oV (d2 ixD (oV (d2 ixD (oPl 2) (oV (dNeg (oV (dC (.int 1))))))) (oV (dC (.int 1))))) (oPl 3)))) (dSetIx 2 (dNeg (oV (dC (.int 1)))) (dTup (aCons (oV (d2 ixD (oV (d2 ixD (oPl 2) (oV (dNeg (oV (dC (.int 1))))))) (oV (dC (.int 0))))) (aCons (oV (d2 addD (oPl 3) (oV (dC (.int 1))))) aNil)))) (dApp 2 (dTup (aCons (oV (dName 3)) (aCons (oV (d2 addD (oPl 3) (oV (dC (.int 1))))) aNil))))) (dEnd .nx))
    (enumD k (zs.map D.int)) [some (.val TL), some (iv a), some (.own 0 (.lst (F.map pr))), x3, x4] =
    .ok ([some (.val TL), some (iv a), some (.own 0 (.lst (F'.map pr))), x3', x4'], .nx)
  | [], k, F, x3, x4, hz, hk, h => by
    have : k = L.length := by
      have := congrArg List.length hz
      simp at this; omega
    subst this
    exact ⟨F, x3, x4, h, rfl⟩
  | z :: zs, k, F, x3, x4, hz, hk, h => by
    have hk' : k < L.length := by
      have := congrArg List.length hz
      simp at this; omega
    have hz' : L.drop (k + 1) = zs := by
      have := congrArg List.tail hz
      simpa [List.tail_drop] using this
    have hlg : lg L k = z := by
      have : L[k]? = some z := by
        have := congrArg (fun l => l[0]?) hz
        simpa using this
      simp [lg, this]
    have hlen := h.len
    have hsz : (F.map pr).length + 1 ≤ 1000000 := by rw [List.length_map]; omega
    have ei : ∀ a b : Int, addD (.int a) (.int b) = some (.int (a + b)) := fun _ _ => rfl
    have q1 : ∀ u v : Int, eqD (.int u) (.int v) = some (.bl (decide (u = v))) := eq_int
    by_cases hg : a < z
    · rcases List.eq_nil_or_concat F with hF | ⟨G, ⟨b, e⟩, hF⟩
      · obtain ⟨F', x3', x4', h1, ih⟩ := loop_str (TL := TL) hl zs (k + 1) (F ++ [((k : Int), (k : Int) + 1)]) (some (iv k)) (some (iv z)) hz' hk' (str_new h (by rw [hlg]; exact hg))
        refine ⟨F', x3', x4', h1, ?_⟩
        rw [← ih]
        have hn := ne_pr F
        subst hF
        simp only [List.map_cons, enumD, fl]
        simp only [List.map_nil, List.isEmpty_nil, Bool.not_true] at hn
        simp [cfOf, startE, fin_, outsOf, retag, findTag, dRet, dSeq, dEnd, dNever, dIte, dIf, dDrop, dFld, dSet, toB, dC, dName, dBl, dNot, dAnd, dOr, tAndD, tOrD, tNotD, dTru, dBoolC, boolD, dIsi, dIsi2, dIsC, tyN, isN, d2, d3, oV, oPl, aNil, aCons, aStar, seqOf, argB, argsB, ownPl, nodupB, wb, wb1, dCall, dMeth, oMake, oMake0, dSetFld, res, resAll, bV_val, bV_own, tD_lst, tD_ins, vals, dL, dLV, dTup, dLst, oLst, sz, ofO, leD, ltD, gtD, geD, i0D, iD, truD, isSq, lenD, dFz, R.bind, dAsg, gTp, gsCons, gsNil, gNm, dPar, setAll, dAug, dSetIx, isOwn, dApp, dFor, iVals, iRes, iSeq, dSl, pNo, pSome, cutD, dNeg, fdivD, modD, mulA, mulI, absD, intD, max2D, min2D, max3D, min3D, isND, notND, ei, hg, pr, hn]
      · rw [List.concat_eq_append] at hF
        have hn := ne_pr F
        have hix := ix_lastD (F := G.map pr) (z := pr (b, e))
        by_cases hek : e = k
        · subst hek
          obtain ⟨F', x3', x4', h1, ih⟩ := loop_str (TL := TL) hl zs (k + 1) (G ++ [(b, (k : Int) + 1)]) (some (iv k)) (some (iv z)) hz' hk' (str_more (by rw [← hF]; exact h) (by rw [hlg]; exact hg))
          refine ⟨F', x3', x4', h1, ?_⟩
          rw [← ih]
          have hi1 : ixD (pr (b, (k : Int))) (.int 1) = some (.int k) := by simp [pr, ixD, L2.atI, L2.ixN]
          have hi0 : ixD (pr (b, (k : Int))) (.int 0) = some (.int b) := by simp [pr, ixD, L2.atI, L2.ixN]
          have hFm : F.map pr = G.map pr ++ [pr (b, (k : Int))] := by rw [hF]; simp
          have hxn : L2.ixN (G.map pr ++ [pr (b, (k : Int))]).length (-1) = some G.length := by rw [List.length_append, List.length_map]; exact ixN_last
          have hset : ∀ y : D, (G.map pr ++ [pr (b, (k : Int))]).set G.length y = G.map pr ++ [y] := fun y => by rw [List.set_append_right _ _ (by simp)]; simp
          have hne : F.isEmpty = false := by rw [hF]; simp
          have hGm : (G ++ [(b, (k : Int) + 1)]).map pr = G.map pr ++ [.tup [.int b, .int ((k : Int) + 1)]] := by simp [pr]
          rw [hFm, hne] at hn
          rw [hFm, hGm]
          generalize pr (b, (k : Int)) = P at hi1 hi0 hix hn hxn hset
          generalize eQ : G.map pr ++ [P] = Q at hix hn hxn hset
          simp only [List.map_cons, enumD, fl]
          simp [cfOf, startE, fin_, outsOf, retag, findTag, dRet, dSeq, dEnd, dNever, dIte, dIf, dDrop, dFld, dSet, toB, dC, dName, dBl, dNot, dAnd, dOr, tAndD, tOrD, tNotD, dTru, dBoolC, boolD, dIsi, dIsi2, dIsC, tyN, isN, d2, d3, oV, oPl, aNil, aCons, aStar, seqOf, argB, argsB, ownPl, nodupB, wb, wb1, dCall, dMeth, oMake, oMake0, dSetFld, res, resAll, bV_val, bV_own, tD_lst, tD_ins, vals, dL, dLV, dTup, dLst, oLst, sz, ofO, leD, ltD, gtD, geD, i0D, iD, truD, isSq, lenD, dFz, R.bind, dAsg, gTp, gsCons, gsNil, gNm, dPar, setAll, dAug, dSetIx, isOwn, dApp, dFor, iVals, iRes, iSeq, dSl, pNo, pSome, cutD, dNeg, fdivD, modD, mulA, mulI, absD, intD, max2D, min2D, max3D, min3D, isND, notND, ei, hg, hn, hix, hi1, hi0, q1, dSetIx, hxn, hset]
        · obtain ⟨F', x3', x4', h1, ih⟩ := loop_str (TL := TL) hl zs (k + 1) (F ++ [((k : Int), (k : Int) + 1)]) (some (iv k)) (some (iv z)) hz' hk' (str_new h (by rw [hlg]; exact hg))
          refine ⟨F', x3', x4', h1, ?_⟩
          rw [← ih]
          have hi1 : ixD (pr (b, e)) (.int 1) = some (.int e) := by simp [pr, ixD, L2.atI, L2.ixN]
          have hFm : F.map pr = G.map pr ++ [pr (b, e)] := by rw [hF]; simp
          have hne : F.isEmpty = false := by rw [hF]; simp
          have hGm : (F ++ [((k : Int), (k : Int) + 1)]).map pr = F.map pr ++ [.tup [.int k, .int ((k : Int) + 1)]] := by simp [pr]
          rw [← hFm] at hix
          rw [hne] at hn
          rw [hGm]
          generalize pr (b, e) = P at hi1 hix
          generalize F.map pr = Q at hix hn hsz
          simp only [List.map_cons, enumD, fl]
          simp [cfOf, startE, fin_, outsOf, retag, findTag, dRet, dSeq, dEnd, dNever, dIte, dIf, dDrop, dFld, dSet, toB, dC, dName, dBl, dNot, dAnd, dOr, tAndD, tOrD, tNotD, dTru, dBoolC, boolD, dIsi, dIsi2, dIsC, tyN, isN, d2, d3, oV, oPl, aNil, aCons, aStar, seqOf, argB, argsB, ownPl, nodupB, wb, wb1, dCall, dMeth, oMake, oMake0, dSetFld, res, resAll, bV_val, bV_own, tD_lst, tD_ins, vals, dL, dLV, dTup, dLst, oLst, sz, ofO, leD, ltD, gtD, geD, i0D, iD, truD, isSq, lenD, dFz, R.bind, dAsg, gTp, gsCons, gsNil, gNm, dPar, setAll, dAug, dSetIx, isOwn, dApp, dFor, iVals, iRes, iSeq, dSl, pNo, pSome, cutD, dNeg, fdivD, modD, mulA, mulI, absD, intD, max2D, min2D, max3D, min3D, isND, notND, ei, hg, hn, hix, hi1, q1, hek, hsz]
    · obtain ⟨F', x3', x4', h1, ih⟩ := loop_str (TL := TL) hl zs (k + 1) F (some (iv k)) (some (iv z)) hz' hk' (str_no h (by rw [hlg]; exact hg))
      refine ⟨F', x3', x4', h1, ?_⟩
      rw [← ih]
      simp only [List.map_cons, enumD, fl]
      simp [cfOf, startE, fin_, outsOf, retag, findTag, dRet, dSeq, dEnd, dNever, dIte, dIf, dDrop, dFld, dSet, toB, dC, dName, dBl, dNot, dAnd, dOr, tAndD, tOrD, tNotD, dTru, dBoolC, boolD, dIsi, dIsi2, dIsC, tyN, isN, d2, d3, oV, oPl, aNil, aCons, aStar, seqOf, argB, argsB, ownPl, nodupB, wb, wb1, dCall, dMeth, oMake, oMake0, dSetFld, res, resAll, bV_val, bV_own, tD_lst, tD_ins, vals, dL, dLV, dTup, dLst, oLst, sz, ofO, leD, ltD, gtD, geD, i0D, iD, truD, isSq, lenD, dFz, R.bind, dAsg, gTp, gsCons, gsNil, gNm, dPar, setAll, dAug, dSetIx, isOwn, dApp, dFor, iVals, iRes, iSeq, dSl, pNo, pSome, cutD, dNeg, fdivD, modD, powD, mulA, mulI, addD, absD, intD, max2D, min2D, max3D, min3D, isND, notND, hg]
theorem f_stretches {a : Int} {L : List Int} (hL : InNine L) (l1 : 1 ≤ L.length) (l2 : L.length ≤ 80) (a0 : 0 ≤ a) (a8 : a ≤ 9) : ∃ F : List (Int × Int), Str a L L.length F ∧
    F_stretches_above [.val (tI L), iv a] = .ok [none, none] (.tup (F.map pr)) := by
  obtain ⟨F, x3, x4, h, hl⟩ := loop_str (a := a) (L := L) (TL := tI L) (by omega) L 0 [] none none (by simp) (by omega) ⟨by simp [upTo], by simp, by simp⟩
  refine ⟨F, h, ?_⟩
  have hck := f_check_lengths l1 l2 hL
  have he : enum1 [tI L] = some (enumD 0 (L.map D.int)) := rfl
  have ht : tupleD [.lst (F.map pr)] = some (.tup (F.map pr)) := rfl
  generalize F.map pr = Q at hl ht
  generalize enumD 0 (L.map D.int) = EE at hl he
  generalize tI L = TL at hl he hck
  simp only [List.map_nil] at hl
  simp [cfOf, startE, fin_, outsOf, retag, findTag, dRet, dSeq, dEnd, dNever, dIte, dIf, dDrop, dFld, dSet, toB, dC, dName, dBl, dNot, dAnd, dOr, tAndD, tOrD, tNotD, dTru, dBoolC, boolD, dIsi, dIsi2, dIsC, tyN, isN, d2, d3, oV, oPl, aNil, aCons, aStar, seqOf, argB, argsB, ownPl, nodupB, wb, wb1, dCall, dMeth, oMake, oMake0, dSetFld, res, resAll, bV_val, bV_own, tD_lst, tD_ins, vals, dL, dLV, dTup, dLst, oLst, sz, ofO, leD, ltD, gtD, geD, i0D, iD, truD, isSq, dFz, R.bind, dAsg, gTp, gsCons, gsNil, gNm, dPar, setAll, dAug, dSetIx, isOwn, dApp, dFor, iVals, iRes, iSeq, dSl, pNo, pSome, cutD, dNeg, fdivD, modD, mulA, mulI, absD, intD, max2D, min2D, max3D, min3D, isND, notND, F_stretches_above, D_stretches_above, hck, f_is_number, a0, a8, he, hl, ht]
end A
end
section
namespace A
open PySem Zd
set_option autoImplicit false
theorem rings_one {a : Int} {L : List Int} : rings 1 1 a L = upTo a L L.length := by
  rw [rings_eq (by omega) (by omega)]
  have ht : ticks (L.length : Int) 1 = (List.range L.length).map fun (i : Nat) => (i : Int) := by
    unfold ticks Builtin.Range.rangeSize
    rw [if_pos (by omega)]
    by_cases h : 0 < L.length
    · rw [if_pos (by omega)]
      rw [show (((L.length : Int) - 0 - 1) / 1 + 1).toNat = L.length by simp]
      simp
    · rw [if_neg (by omega), show L.length = 0 by omega]; rfl
  rw [ht]
  unfold upTo
  refine List.filter_congr fun t h => ?_
  obtain ⟨i, hi, rfl⟩ := List.mem_map.mp h
  rw [Bool.eq_iff_iff, isR_iff, decide_eq_true_iff]
  constructor
  · rintro ⟨_, h2⟩
    simpa using h2 0 (by omega)
  · intro h2
    refine ⟨by omega, fun j hj => ?_⟩
    rw [show j = 0 by omega]
    simpa using h2
theorem lists_str : ∀ F : List (Int × Int), listsD (F.map fun p => D.lst ((rI p.1 p.2).map D.int)) = some (F.map fun p => (rI p.1 p.2).map D.int)
  | [] => rfl
  | x :: F => by simp [listsD, lists_str F]
theorem flat_str (F : List (Int × Int)) : (F.map fun p => (rI p.1 p.2).map D.int).flatten = ((F.map fun p => rI p.1 p.2).flatten).map D.int := by
  rw [List.map_flatten, List.map_map]
  rfl
theorem rng_rI {b e : Int} (h1 : 0 ≤ b) (h2 : b ≤ e) (h3 : e ≤ 1000) : rng2 [.int b, .int e] = some ((rI b e).map D.int) := by
  show (if _ then _ else _) = _
  rw [if_pos ⟨near_ok (by omega) (by omega), near_ok (by omega) (by omega)⟩]
  unfold rngL rI
  rw [List.map_map]
  congr 1
  apply List.map_congr_left
  intro i _
  simp
theorem st7 {x0 x1 x2 x3 x4 x5 x6 x7 x8 x9 x10 x11 x12 x13 x14 x15 x16 x17 x18 x19 x20 x21 x22 x23 : Option B} {e m a s : Int} {L : List Int} (h : Okl e m a) (hL : InNine L) (l1 : 1 ≤ L.length) (l2 : L.length ≤ 80) :
    S_law_7 [x0, x1, x2, x3, x4, some (iv a), x6, x7, some (.val (tI L)), x9, x10, x11, x12, x13, x14, x15, x16, x17, x18, x19, x20, x21, x22, x23] = .ok ([x0, x1, x2, x3, x4, some (iv a), x6, x7, some (.val (tI L)), x9, x10, x11, x12, some (.val (tI (rings 1 1 a L))), x14, x15, x16, x17, x18, x19, x20, x21, x22, x23], .nx) := by
  have h' : Okl 1 1 a := ⟨by omega, by omega, by omega, by omega, h.a0, h.a8⟩
  have hr := f_rings_of h' hL l1 l2
  have hk := f_mk h' 0
  unfold S_law_7
  generalize tI (rings 1 1 a L) = RR at hr
  generalize tI L = TL at hr
  simp [cfOf, startE, fin_, outsOf, retag, findTag, dRet, dSeq, dEnd, dNever, dIte, dIf, dDrop, dFld, dSet, toB, dC, dName, dBl, dNot, dAnd, dOr, tAndD, tOrD, tNotD, dTru, dBoolC, boolD, dIsi, dIsi2, dIsC, tyN, isN, d2, d3, oV, oPl, aNil, aCons, aStar, seqOf, argB, argsB, ownPl, nodupB, wb, wb1, dCall, dMeth, oMake, oMake0, dSetFld, res, resAll, bV_val, bV_own, tD_lst, tD_ins, vals, dL, dLV, dTup, dLst, oLst, sz, ofO, leD, ltD, gtD, geD, i0D, iD, truD, isSq, lenD, dFz, R.bind, dAsg, gTp, gsCons, gsNil, gNm, dPar, setAll, dAug, dSetIx, isOwn, dApp, dFor, iVals, iRes, iSeq, dSl, pNo, pSome, cutD, dNeg, fdivD, modD, powD, mulA, mulI, addD, absD, intD, max2D, min2D, max3D, min3D, isND, notND, hk, hr]
theorem st8 {x0 x1 x2 x3 x4 x5 x6 x7 x8 x9 x10 x11 x12 x13 x14 x15 x16 x17 x18 x19 x20 x21 x22 x23 : Option B} {e m a s : Int} {L : List Int} (h : Okl e m a) (hL : InNine L) (l1 : 1 ≤ L.length) (l2 : L.length ≤ 80)
    (hn10 : noOwn [x0, x1, x2, x3, x4, x5, x6, x7, x8, x9, x10, x11, x12, x13, x14, x15, x16, x17, x18, x19, x20, x21, x22, x23] [10] = true) (hn : noOwn [x0, x1, x2, x3, x4, x5, x6, x7, x8, x9, x10, x11, x12, x13, x14, x15, x16, x17, x18, x19, x20, x21, x22, x23] [14, 15] = true) :
    S_law_8 [x0, x1, x2, x3, x4, some (iv a), x6, x7, some (.val (tI L)), some (.val (tI (rings e m a L))), x10, x11, x12, some (.val (tI (rings 1 1 a L))), x14, x15, x16, x17, x18, x19, x20, x21, x22, x23] = .ok ([x0, x1, x2, x3, x4, some (iv a), x6, x7, some (.val (tI L)), some (.val (tI (rings e m a L))), x10, x11, x12, some (.val (tI (rings 1 1 a L))), x14, x15, x16, x17, x18, x19, x20, x21, x22, x23], .nx) := by
  have e1 := h.e1; have e6 := h.e6; have m1 := h.m1; have m4 := h.m4; have a0 := h.a0; have a8 := h.a8
  have hlen : (rings e m a L).length ≤ 1000 := Nat.le_trans (rings_len e1 m1) (by omega)
  obtain ⟨F, hF, hs⟩ := f_stretches (a := a) hL l1 l2 a0 (by omega)
  have hFl := hF.len
  refine ite_no (or_no ?_ ?_)
  · have hd : iSeq (dCall F_stretches_above (aCons (oPl 8) (aCons (oPl 5) aNil))) [x0, x1, x2, x3, x4, some (iv a), x6, x7, some (.val (tI L)), some (.val (tI (rings e m a L))), x10, x11, x12, some (.val (tI (rings 1 1 a L))), x14, x15, x16, x17, x18, x19, x20, x21, x22, x23] = .ok ([x0, x1, x2, x3, x4, some (iv a), x6, x7, some (.val (tI L)), some (.val (tI (rings e m a L))), x10, x11, x12, some (.val (tI (rings 1 1 a L))), x14, x15, x16, x17, x18, x19, x20, x21, x22, x23], F.map pr) := by
      generalize F.map pr = Q at hs
      generalize tI L = TL at hs
      generalize tI (rings e m a L) = RQ
      generalize tI (rings 1 1 a L) = RQ1
      simp [cfOf, startE, fin_, outsOf, retag, findTag, dRet, dSeq, dEnd, dNever, dIte, dIf, dDrop, dFld, dSet, toB, dC, dName, dBl, dNot, dAnd, dOr, tAndD, tOrD, tNotD, dTru, dBoolC, boolD, dIsi, dIsi2, dIsC, tyN, isN, d2, d3, oV, oPl, aNil, aCons, aStar, seqOf, argB, argsB, ownPl, nodupB, wb, wb1, dCall, dMeth, oMake, oMake0, dSetFld, res, resAll, bV_val, bV_own, tD_lst, tD_ins, vals, dL, dLV, dTup, dLst, oLst, sz, ofO, leD, ltD, gtD, geD, i0D, iD, truD, isSq, lenD, dFz, R.bind, dAsg, gTp, gsCons, gsNil, gNm, dPar, setAll, dAug, dSetIx, isOwn, dApp, dFor, iVals, iRes, iSeq, dSl, pNo, pSome, cutD, dNeg, fdivD, modD, powD, mulA, mulI, addD, absD, intD, max2D, min2D, max3D, min3D, isND, notND, hs]
    have c := oLc_ok (vs := [14, 15]) (g := gTp (gsCons (gNm 14) (gsCons (gNm 15) gsNil))) (t := tTrue) (d := dFz (oLc (iRes rng2 (aCons (oPl 14) (aCons (oPl 15) aNil))) [10] (gNm 10) tTrue (dName 10)))
      (fun _ => true) (fun d => match d with | .tup [.int b, .int e] => .lst ((rI b e).map D.int) | _ => .non) hd (by simpa [noOwn] using hn)
      (fun d hd => by
        obtain ⟨⟨b, e'⟩, hp, rfl⟩ := List.mem_map.mp hd
        have hb := hF.inn _ hp
        have hc := lc_int (v := 10) (ρ := [x0, x1, x2, x3, x4, some (iv a), x6, x7, some (.val (tI L)), some (.val (tI (rings e m a L))), x10, x11, x12, some (.val (tI (rings 1 1 a L))), some (iv b), some (iv e'), x16, x17, x18, x19, x20, x21, x22, x23])
          (di := iRes rng2 (aCons (oPl 14) (aCons (oPl 15) aNil))) (t := tTrue) (c := dName 10) (Rg := rI b e') (fun _ => true) (fun t => .int t) (by simp) (by simpa [noOwn] using hn10)
          (by
            have hr := rng_rI (b := b) (e := e') (by omega) (by omega) (by simp at hb; omega)
            generalize (rI b e').map D.int = Q at hr
            generalize tI L = TL
            generalize tI (rings e m a L) = RQ
            generalize tI (rings 1 1 a L) = RQ1
            simp [cfOf, startE, fin_, outsOf, retag, findTag, dRet, dSeq, dEnd, dNever, dIte, dIf, dDrop, dFld, dSet, toB, dC, dName, dBl, dNot, dAnd, dOr, tAndD, tOrD, tNotD, dTru, dBoolC, boolD, dIsi, dIsi2, dIsC, tyN, isN, d2, d3, oV, oPl, aNil, aCons, aStar, seqOf, argB, argsB, ownPl, nodupB, wb, wb1, dCall, dMeth, oMake, oMake0, dSetFld, res, resAll, bV_val, bV_own, tD_lst, tD_ins, vals, dL, dLV, dTup, dLst, oLst, sz, ofO, leD, ltD, gtD, geD, i0D, iD, truD, isSq, lenD, dFz, R.bind, dAsg, gTp, gsCons, gsNil, gNm, dPar, setAll, dAug, dSetIx, isOwn, dApp, dFor, iVals, iRes, iSeq, dSl, pNo, pSome, cutD, dNeg, fdivD, modD, powD, mulA, mulI, addD, absD, intD, max2D, min2D, max3D, min3D, isND, notND, hr]) (fun x hx => rfl) (fun x hx _ => by
            generalize tI L = TL
            generalize tI (rings e m a L) = RQ
            generalize tI (rings 1 1 a L) = RQ1
            simp [cfOf, startE, fin_, outsOf, retag, findTag, dRet, dSeq, dEnd, dNever, dIte, dIf, dDrop, dFld, dSet, toB, dC, dName, dBl, dNot, dAnd, dOr, tAndD, tOrD, tNotD, dTru, dBoolC, boolD, dIsi, dIsi2, dIsC, tyN, isN, d2, d3, oV, oPl, aNil, aCons, aStar, seqOf, argB, argsB, ownPl, nodupB, wb, wb1, dCall, dMeth, oMake, oMake0, dSetFld, res, resAll, bV_val, bV_own, tD_lst, tD_ins, vals, dL, dLV, dTup, dLst, oLst, sz, ofO, leD, ltD, gtD, geD, i0D, iD, truD, isSq, lenD, dFz, R.bind, dAsg, gTp, gsCons, gsNil, gNm, dPar, setAll, dAug, dSetIx, isOwn, dApp, dFor, iVals, iRes, iSeq, dSl, pNo, pSome, cutD, dNeg, fdivD, modD, powD, mulA, mulI, addD, absD, intD, max2D, min2D, max3D, min3D, isND, notND]) (by simp [rI]; simp at hb; omega)
        have hf : (rI b e').filter (fun _ => true) = rI b e' := by simp
        rw [hf] at hc
        refine ⟨[x0, x1, x2, x3, x4, some (iv a), x6, x7, some (.val (tI L)), some (.val (tI (rings e m a L))), x10, x11, x12, some (.val (tI (rings 1 1 a L))), some (iv b), some (iv e'), x16, x17, x18, x19, x20, x21, x22, x23], ?_, .inl ⟨rfl, _, [x0, x1, x2, x3, x4, some (iv a), x6, x7, some (.val (tI L)), some (.val (tI (rings e m a L))), x10, x11, x12, some (.val (tI (rings 1 1 a L))), some (iv b), some (iv e'), x16, x17, x18, x19, x20, x21, x22, x23], rfl, ?_, ?_⟩⟩
        · simp [wipeE, gTp, gsCons, gsNil, gNm, pr, seqOf]
        · simp only [pr, dFz, hc]
          rfl
        · simp [wipeE])
      (by rw [List.length_map]; omega)
    have hf : (F.map pr).filter (fun _ => true) = F.map pr := by simp
    rw [hf, List.map_map] at c
    have hfm : (F.map ((fun d => match d with | .tup [.int b, .int e] => D.lst ((rI b e).map D.int) | _ => .non) ∘ pr)) = F.map fun p => D.lst ((rI p.1 p.2).map D.int) := rfl
    rw [hfm] at c
    have hb : backE [x0, x1, x2, x3, x4, some (iv a), x6, x7, some (.val (tI L)), some (.val (tI (rings e m a L))), x10, x11, x12, some (.val (tI (rings 1 1 a L))), x14, x15, x16, x17, x18, x19, x20, x21, x22, x23] (wipeE [x0, x1, x2, x3, x4, some (iv a), x6, x7, some (.val (tI L)), some (.val (tI (rings e m a L))), x10, x11, x12, some (.val (tI (rings 1 1 a L))), x14, x15, x16, x17, x18, x19, x20, x21, x22, x23] [14, 15]) [14, 15] = [x0, x1, x2, x3, x4, some (iv a), x6, x7, some (.val (tI L)), some (.val (tI (rings e m a L))), x10, x11, x12, some (.val (tI (rings 1 1 a L))), x14, x15, x16, x17, x18, x19, x20, x21, x22, x23] := by
      simp [wipeE, backE]
    rw [hb] at c
    have hul : (upTo a L L.length).length ≤ 1000000 := by
      have := List.length_filter_le (fun t => decide (a < lg L t)) ((List.range L.length).map fun (i : Nat) => (i : Int))
      rw [List.length_map, List.length_range] at this
      unfold upTo
      omega
    have hsum : sumLD [.lst (F.map fun p => D.lst ((rI p.1 p.2).map D.int)), .lst []] = some (.lst ((rings 1 1 a L).map D.int)) := by
      simp only [sumLD, lists_str, Option.bind_some]
      rw [flat_str, hF.flat, ← rings_one, List.length_map, if_pos (by rw [rings_one]; exact hul)]
    have ht : tupleD [.lst ((rings 1 1 a L).map D.int)] = some (tI (rings 1 1 a L)) := rfl
    have hne := ne_tI (rings 1 1 a L) (rings 1 1 a L)
    generalize (F.map fun p => D.lst ((rI p.1 p.2).map D.int)) = Q1 at c hsum
    generalize (rings 1 1 a L).map D.int = Q2 at hsum ht
    generalize tI L = TL at c
    generalize tI (rings e m a L) = RQ at c
    generalize tI (rings 1 1 a L) = RQ1 at c ht hne
    simp [cfOf, startE, fin_, outsOf, retag, findTag, dRet, dSeq, dEnd, dNever, dIte, dIf, dDrop, dFld, dSet, toB, dC, dName, dBl, dNot, dAnd, dOr, tAndD, tOrD, tNotD, dTru, dBoolC, boolD, dIsi, dIsi2, dIsC, tyN, isN, d2, d3, oV, oPl, aNil, aCons, aStar, seqOf, argB, argsB, ownPl, nodupB, wb, wb1, dCall, dMeth, oMake, oMake0, dSetFld, res, resAll, bV_val, bV_own, tD_lst, tD_ins, vals, dL, dLV, dTup, dLst, oLst, sz, ofO, leD, ltD, gtD, geD, i0D, iD, truD, isSq, lenD, dFz, R.bind, dAsg, gTp, gsCons, gsNil, gNm, dPar, setAll, dAug, dSetIx, isOwn, dApp, dFor, iVals, iRes, iSeq, dSl, pNo, pSome, dNeg, fdivD, modD, powD, mulA, mulI, addD, absD, intD, max2D, min2D, max3D, min3D, isND, notND, dLV, c, hsum, ht, hne]
  · have c := lc_int (v := 10) (ρ := [x0, x1, x2, x3, x4, some (iv a), x6, x7, some (.val (tI L)), some (.val (tI (rings e m a L))), x10, x11, x12, some (.val (tI (rings 1 1 a L))), x14, x15, x16, x17, x18, x19, x20, x21, x22, x23]) (di := iSeq (dName 9)) (t := tTrue) (c := d2 (inD true) (oPl 10) (oPl 13)) (Rg := rings e m a L) (fun _ => true)
      (fun t => .bl (!decide (t ∈ rings 1 1 a L))) (by simp) (by simpa [noOwn] using hn10) (by simp [iSeq, dName, bV_val, seqOf, dL, R.bind]) (fun x hx => rfl)
      (fun x hx _ => by
        have hin := in_tI true x (rings 1 1 a L)
        generalize tI L = TL
        generalize tI (rings e m a L) = RQ
        generalize tI (rings 1 1 a L) = RQ1 at hin
        simp [cfOf, startE, fin_, outsOf, retag, findTag, dRet, dSeq, dEnd, dNever, dIte, dIf, dDrop, dFld, dSet, toB, dC, dName, dBl, dNot, dAnd, dOr, tAndD, tOrD, tNotD, dTru, dBoolC, boolD, dIsi, dIsi2, dIsC, tyN, isN, d2, d3, oV, oPl, aNil, aCons, aStar, seqOf, argB, argsB, ownPl, nodupB, wb, wb1, dCall, dMeth, oMake, oMake0, dSetFld, res, resAll, bV_val, bV_own, tD_lst, tD_ins, vals, dL, dLV, dTup, dLst, oLst, sz, ofO, leD, ltD, gtD, geD, i0D, iD, truD, isSq, lenD, dFz, R.bind, dAsg, gTp, gsCons, gsNil, gNm, dPar, setAll, dAug, dSetIx, isOwn, dApp, dFor, iVals, iRes, iSeq, dSl, pNo, pSome, cutD, dNeg, fdivD, modD, powD, mulA, mulI, addD, absD, intD, max2D, min2D, max3D, min3D, isND, notND, hin]) (by omega)
    have hf : (rings e m a L).filter (fun _ => true) = rings e m a L := by simp
    rw [hf] at c
    rw [any_of (fun t => !decide (t ∈ rings 1 1 a L)) c]
    have hz : (rings e m a L).any (fun t => !decide (t ∈ rings 1 1 a L)) = false := by
      rw [List.any_eq_false]
      intro x hx
      have : x ∈ rings 1 1 a L := by
        obtain ⟨⟨i, hi, h1⟩, h2⟩ := (mem_rings e1 m1).mp hx
        rw [mem_rings (by omega) (by omega), isR_iff]
        rw [isR_iff] at h2
        have hx0 : 0 ≤ x := by rw [hi]; exact Int.mul_nonneg (by omega) (by omega)
        refine ⟨⟨x.toNat, by omega, h1⟩, by omega, fun j hj => ?_⟩
        have h3 := h2.2 0 (by omega)
        rw [show j = 0 by omega]
        simpa using h3
      simp [this]
    rw [hz]
end A
end
section
namespace A
open PySem Zd
set_option autoImplicit false
theorem fl_inv {g : D → Zd.Env → Option Zd.Env} {body : DSn} (I : Zd.Env → Prop) : ∀ (ds : List D), (∀ d ∈ ds, ∀ ρ, I ρ → ∃ ρ1 ρ2, g d ρ = some ρ1 ∧ body ρ1 = .ok (ρ2, .nx) ∧ I ρ2) → ∀ ρ, I ρ → ∃ ρ', fl g body ds ρ = .ok (ρ', .nx) ∧ I ρ'
  | [], _, ρ, h => ⟨ρ, rfl, h⟩
  | d :: ds, h, ρ, hi => by
    obtain ⟨ρ1, ρ2, h1, h2, h3⟩ := h d List.mem_cons_self ρ hi
    obtain ⟨ρ', h4, h5⟩ := fl_inv I ds (fun x hx => h x (List.mem_cons_of_mem _ hx)) ρ2 h3
    exact ⟨ρ', by simp [fl, ofO, h1, h2, h4, R.bind], h5⟩
/-- the lengths from a ring's first look to its tick -/
def win (e m : Int) (L : List Int) (t : Int) : List Int := (L.drop (t - (m - 1) * e).toNat).take ((t + 1).toNat - (t - (m - 1) * e).toNat)
theorem win_mem {e m t : Int} {L : List Int} (h0 : 0 ≤ t - (m - 1) * e) (h1 : (m - 1) * e ≥ 0) (h2 : t < L.length) {z : Int} (hz : z ∈ win e m L t) : ∃ u : Int, t - (m - 1) * e ≤ u ∧ u ≤ t ∧ z = lg L u := by
  unfold win at hz
  obtain ⟨i, hi, rfl⟩ := List.mem_iff_getElem.mp hz
  rw [List.length_take, List.length_drop] at hi
  refine ⟨t - (m - 1) * e + i, by omega, by omega, ?_⟩
  have : (t - (m - 1) * e + (i : Int)).toNat = (t - (m - 1) * e).toNat + i := by omega
  unfold lg
  rw [this, List.getElem_take, List.getElem_drop, List.getElem?_eq_getElem (by omega)]
  rfl
theorem win_ne {e m t : Int} {L : List Int} (h0 : 0 ≤ t - (m - 1) * e) (h1 : (m - 1) * e ≥ 0) (h2 : t < L.length) : win e m L t ≠ [] := by
  intro h
  have := congrArg List.length h
  unfold win at this
  rw [List.length_take, List.length_drop, List.length_nil] at this
  omega
theorem ints_map : ∀ L : List Int, intsD (L.map D.int) = some L
  | [] => rfl
  | x :: L => by simp [intsD, ints_map L]
theorem minI_spec : ∀ (ns : List Int) (n : Int), minI n ns ∈ n :: ns ∧ ∀ z ∈ n :: ns, minI n ns ≤ z
  | [], n => by simp [minI]
  | x :: ns, n => by
    by_cases h : x < n
    · obtain ⟨h1, h2⟩ := minI_spec ns x
      have e : minI n (x :: ns) = minI x ns := by simp [minI, h]
      rw [e]
      refine ⟨List.mem_cons_of_mem _ h1, fun z hz => ?_⟩
      have hx := h2 x List.mem_cons_self
      rcases List.mem_cons.mp hz with rfl | hz
      · omega
      · exact h2 z hz
    · obtain ⟨h1, h2⟩ := minI_spec ns n
      have e : minI n (x :: ns) = minI n ns := by simp [minI, h]
      rw [e]
      refine ⟨?_, fun z hz => ?_⟩
      · rcases List.mem_cons.mp h1 with h1 | h1
        · rw [h1]; exact List.mem_cons_self
        · exact List.mem_cons_of_mem _ (List.mem_cons_of_mem _ h1)
      · have hn := h2 n List.mem_cons_self
        rcases List.mem_cons.mp hz with rfl | hz
        · exact hn
        · rcases List.mem_cons.mp hz with rfl | hz
          · omega
          · exact h2 z (List.mem_cons_of_mem _ hz)
theorem min_spec {L : List Int} (h : L ≠ []) : ∃ v, v ∈ L ∧ (∀ z ∈ L, v ≤ z) ∧ minD [tI L] = some (.int v) := by
  cases L with
  | nil => exact absurd rfl h
  | cons n ns =>
    obtain ⟨h1, h2⟩ := minI_spec ns n
    refine ⟨minI n ns, h1, h2, ?_⟩
    have := ints_map (n :: ns)
    simp only [minD, isSq, tI, Option.bind_some, this]
    rfl
theorem f_is_true {e m a t f : Int} {L : List Int} (h : Okl e m a) (hL : InNine L) (l1 : 1 ≤ L.length) (l2 : L.length ≤ 80) (f0 : 0 ≤ f) (f9 : f ≤ 9) (ht : t ∈ rings e m a L) :
    F_is_true_ring [.val (LK e m a), .val (tI L), iv t, iv f] = .ok [none, none, none, none] (.bl ((win e m L t).all fun z => decide (f < z))) := by
  have hr := f_rings_of h hL l1 l2
  have hsp := f_span (a := a) h.e1 h.e6 h.m1 h.m4
  have hs := span_b h
  obtain ⟨⟨i, hi, h1⟩, h2⟩ := (mem_rings h.e1 h.m1).mp ht
  have h3 := (isR_iff.mp h2).1
  have hin := in_tI true t (rings e m a L)
  have hin2 : decide (t ∈ rings e m a L) = true := by simpa using ht
  rw [hin2] at hin
  have hcut := cut_lst (L := L) (b := t - (m - 1) * e) (c := t + 1) (by omega) (by omega) (by omega) (by omega)
  have hls : listD [tI L] = some (fI L) := rfl
  have hc := lc_int (v := 4) (ρ := [some (.val (LK e m a)), some (.val (tI L)), some (iv t), some (iv f), none]) (di := iSeq (dSl (oV (dL listD (aCons (oPl 1) aNil))) (pSome (d2 (i0D fun i j => .int (i - j)) (oPl 2) (oV (dMeth M_span (oPl 0) aNil)))) (pSome (d2 addD (oPl 2) (oV (dC (.int 1)))))))
    (t := tTrue) (c := d2 gtD (oPl 4) (oPl 3)) (Rg := win e m L t) (fun _ => true) (fun z => .bl (decide (f < z))) (by simp) rfl
    (by
      have hsq : seqOf (fI ((L.drop (t - (m - 1) * e).toNat).take ((t + 1).toNat - (t - (m - 1) * e).toNat))) = some ((win e m L t).map D.int) := rfl
      have ei : ∀ a b : Int, addD (.int a) (.int b) = some (.int (a + b)) := fun _ _ => rfl
      generalize fI ((L.drop (t - (m - 1) * e).toNat).take ((t + 1).toNat - (t - (m - 1) * e).toNat)) = W at hcut hsq
      generalize fI L = FL at hcut hls
      generalize tI L = TL at hls
      generalize (win e m L t).map D.int = WM at hsq
      simp [cfOf, startE, fin_, outsOf, retag, findTag, dRet, dSeq, dEnd, dNever, dIte, dIf, dDrop, dFld, dSet, toB, dC, dName, dBl, dNot, dAnd, dOr, tAndD, tOrD, tNotD, dTru, dBoolC, boolD, dIsi, dIsi2, dIsC, tyN, isN, d2, d3, oV, oPl, aNil, aCons, aStar, argB, argsB, ownPl, nodupB, wb, wb1, dCall, dMeth, oMake, oMake0, dSetFld, res, resAll, bV_val, bV_own, tD_lst, tD_ins, vals, dL, dLV, dTup, dLst, oLst, sz, ofO, leD, ltD, gtD, geD, i0D, iD, truD, isSq, dFz, R.bind, dAsg, gTp, gsCons, gsNil, gNm, dPar, setAll, dAug, dSetIx, isOwn, dApp, dFor, iVals, iRes, iSeq, dSl, pNo, pSome, dNeg, fdivD, modD, powD, mulA, mulI, absD, intD, max2D, min2D, max3D, min3D, isND, notND, hls, hcut, hsq, hsp, M_span, ei])
    (fun x hx => rfl)
    (fun x hx _ => by
      generalize tI L = TL
      simp [cfOf, startE, fin_, outsOf, retag, findTag, dRet, dSeq, dEnd, dNever, dIte, dIf, dDrop, dFld, dSet, toB, dC, dName, dBl, dNot, dAnd, dOr, tAndD, tOrD, tNotD, dTru, dBoolC, boolD, dIsi, dIsi2, dIsC, tyN, isN, d2, d3, oV, oPl, aNil, aCons, aStar, seqOf, argB, argsB, ownPl, nodupB, wb, wb1, dCall, dMeth, oMake, oMake0, dSetFld, res, resAll, bV_val, bV_own, tD_lst, tD_ins, vals, dL, dLV, dTup, dLst, oLst, sz, ofO, leD, ltD, gtD, geD, i0D, iD, truD, isSq, lenD, dFz, R.bind, dAsg, gTp, gsCons, gsNil, gNm, dPar, setAll, dAug, dSetIx, isOwn, dApp, dFor, iVals, iRes, iSeq, dSl, pNo, pSome, cutD, dNeg, fdivD, modD, powD, mulA, mulI, addD, absD, intD, max2D, min2D, max3D, min3D, isND, notND])
    (by unfold win; rw [List.length_take, List.length_drop]; omega)
  have hf : (win e m L t).filter (fun _ => true) = win e m L t := by simp
  rw [hf] at hc
  have hal := all_bls (fun z => decide (f < z)) (win e m L t)
  generalize ((win e m L t).map fun z => D.bl (decide (f < z))) = Q at hc hal
  generalize tI (rings e m a L) = RQ at hr hin
  generalize tI L = TL at hr hc
  simp [cfOf, startE, fin_, outsOf, retag, findTag, dRet, dSeq, dEnd, dNever, dIte, dIf, dDrop, dFld, dSet, toB, dC, dName, dBl, dNot, dAnd, dOr, tAndD, tOrD, tNotD, dTru, dBoolC, boolD, dIsi, dIsi2, dIsC, tyN, isN, d2, d3, oV, oPl, aNil, aCons, aStar, argB, argsB, ownPl, nodupB, wb, wb1, dCall, dMeth, oMake, oMake0, dSetFld, res, resAll, bV_val, bV_own, tD_lst, tD_ins, vals, dL, dLV, dTup, dLst, oLst, sz, ofO, leD, ltD, gtD, geD, i0D, iD, truD, isSq, dFz, R.bind, dAsg, gTp, gsCons, gsNil, gNm, dPar, setAll, dAug, dSetIx, isOwn, dApp, dFor, iVals, iRes, iSeq, dSl, pNo, pSome, dNeg, fdivD, modD, powD, mulA, mulI, absD, intD, max2D, min2D, max3D, min3D, isND, notND] at hc
  simp [cfOf, startE, fin_, outsOf, retag, findTag, dRet, dSeq, dEnd, dNever, dIte, dIf, dDrop, dFld, dSet, toB, dC, dName, dBl, dNot, dAnd, dOr, tAndD, tOrD, tNotD, dTru, dBoolC, boolD, dIsi, dIsi2, dIsC, tyN, isN, d2, d3, oV, oPl, aNil, aCons, aStar, argB, argsB, ownPl, nodupB, wb, wb1, dCall, dMeth, oMake, oMake0, dSetFld, res, resAll, bV_val, bV_own, tD_lst, tD_ins, vals, dL, dLV, dTup, dLst, oLst, sz, ofO, leD, ltD, gtD, geD, i0D, iD, truD, isSq, dFz, R.bind, dAsg, gTp, gsCons, gsNil, gNm, dPar, setAll, dAug, dSetIx, isOwn, dApp, dFor, iVals, iRes, iSeq, dSl, pNo, pSome, dNeg, fdivD, modD, powD, mulA, mulI, absD, intD, max2D, min2D, max3D, min3D, isND, notND, F_is_true_ring, D_is_true_ring, hr, hin, f_is_number, f0, f9, hc, hal]
end A
end
section
namespace A
open PySem Zd
set_option autoImplicit false
theorem near_far {s v : Int} {L : List Int} (hN : Near s L) (h0 : 0 ≤ v) : ∀ k : Nat, v + k < L.length → lg L v - s * k ≤ lg L (v + k) ∧ lg L (v + k) ≤ lg L v + s * k
  | 0, _ => by simp
  | k + 1, h => by
    have ih := near_far hN h0 k (by omega)
    have hk : (v + k).toNat + 1 < L.length := by omega
    have e1 : lg L (v + k) = L[(v + k).toNat] := by unfold lg; rw [List.getElem?_eq_getElem (by omega)]; rfl
    have e2 : lg L (v + (k + 1 : Nat)) = L[(v + k).toNat + 1] := by
      unfold lg
      rw [show (v + (k + 1 : Nat)).toNat = (v + k).toNat + 1 by omega, List.getElem?_eq_getElem hk]; rfl
    have := hN (v + k).toNat _ _ (List.getElem?_eq_getElem (by omega)) (List.getElem?_eq_getElem hk)
    rw [← e1, ← e2] at this
    have hm : s * ((k + 1 : Nat) : Int) = s * k + s := by rw [show ((k + 1 : Nat) : Int) = (k : Int) + 1 by omega, Int.mul_add]; omega
    rw [hm]
    omega
theorem lg_rng {L : List Int} (hL : InNine L) {u : Int} (h0 : 0 ≤ u) (h1 : u < L.length) : 0 ≤ lg L u ∧ lg L u ≤ 9 := by
  have : lg L u = L[u.toNat] := by unfold lg; rw [List.getElem?_eq_getElem (by omega)]; rfl
  rw [this]
  exact hL _ (List.getElem_mem _)
theorem low_between {e m a s t u : Int} {L : List Int} (h : Okl e m a) (hN : Near s L) (hL : InNine L) (hs : 0 ≤ s) (ht : t < L.length) (hr : isR e m a L t = true) (h1 : t - (m - 1) * e ≤ u) (h2 : u ≤ t) : lb e m a s ≤ lg L u := by
  obtain ⟨hr1, hr2⟩ := isR_iff.mp hr
  have e1 := h.e1
  have hu := lg_rng hL (u := u) (by omega) (by omega)
  suffices a + 1 - (if 1 < m then s * (e / 2) else 0) ≤ lg L u by
    unfold lb
    by_cases hp : 0 < a + 1 - (if 1 < m then s * (e / 2) else 0)
    · rw [if_pos hp]; exact this
    · rw [if_neg hp]; exact hu.1
  by_cases hm : 1 < m
  · rw [if_pos hm]
    have hd : t - u = e * ((t - u) / e) + (t - u) % e := (Int.mul_ediv_add_emod (t - u) e).symm
    have hr0 := mod_lt (a := t - u) (b := e) (by omega)
    have hq0 : 0 ≤ (t - u) / e := Int.ediv_nonneg (by omega) (by omega)
    obtain ⟨q, hq⟩ := Int.eq_ofNat_of_zero_le hq0
    rw [hq] at hd
    rw [Int.mul_comm] at hd
    generalize (t - u) % e = r at hd hr0
    have hq1 : (q : Int) ≤ m - 1 := by
      have : (q : Int) * e ≤ (m - 1) * e := by omega
      exact Int.le_of_mul_le_mul_right this (by omega)
    have hqe : 0 ≤ (q : Int) * e := Int.mul_nonneg (by omega) (by omega)
    by_cases hh : r ≤ e / 2
    · have hk := hr2 q (by omega)
      have hn := near_far hN (v := u) (by omega) r.toNat (by omega)
      rw [show u + (r.toNat : Int) = t - (q : Int) * e by omega] at hn
      have : s * (r.toNat : Int) ≤ s * (e / 2) := Int.mul_le_mul_of_nonneg_left (by omega) hs
      omega
    · have hq2 : (q : Int) + 1 ≤ m - 1 := by
        by_cases hc : (q : Int) + 1 ≤ m - 1
        · exact hc
        · have : (q : Int) = m - 1 := by omega
          rw [this] at hd
          omega
      have hk := hr2 (q + 1) (by omega)
      have hb := back_in (j := q + 1) e1 hr1 (by omega)
      have he : ((q + 1 : Nat) : Int) * e = (q : Int) * e + e := by rw [show ((q + 1 : Nat) : Int) = (q : Int) + 1 by omega, Int.add_mul]; omega
      rw [he] at hk hb
      have hn := near_far hN (v := t - ((q : Int) * e + e)) hb.1 (e - r).toNat (by omega)
      rw [show t - ((q : Int) * e + e) + ((e - r).toNat : Int) = u by omega] at hn
      have : s * ((e - r).toNat : Int) ≤ s * (e / 2) := Int.mul_le_mul_of_nonneg_left (by omega) hs
      omega
  · rw [if_neg hm]
    have hm1 : m = 1 := by have := h.m1; omega
    subst hm1
    have := hr2 0 (by omega)
    simp at this h1
    rw [show u = t by omega]
    omega
end A
end
section
namespace A
open PySem Zd
set_option autoImplicit false
theorem st9 {x0 x1 x2 x3 x4 x5 x6 x7 x8 x9 x10 x11 x12 x13 x14 x15 x16 x17 x18 x19 x20 x21 x22 x23 : Option B} {e m a s : Int} {L : List Int} (h : Okl e m a) (hL : InNine L) (hN : Near s L) (s0 : 0 ≤ s) (s3 : s ≤ 3) (l1 : 1 ≤ L.length) (l2 : L.length ≤ 80) : ∃ y10 y16 : Option B, ((y10 = x10 ∨ ∃ d, y10 = some (.val d)) ∧
    S_law_9 [x0, x1, x2, x3, x4, x5, some (iv s), some (.val (LK e m a)), some (.val (tI L)), some (.val (tI (rings e m a L))), x10, x11, x12, x13, x14, x15, x16, x17, x18, x19, x20, x21, x22, x23] = .ok ([x0, x1, x2, x3, x4, x5, some (iv s), some (.val (LK e m a)), some (.val (tI L)), some (.val (tI (rings e m a L))), y10, x11, x12, x13, x14, x15, y16, x17, x18, x19, x20, x21, x22, x23], .nx)) := by
  have hlb := f_least_between (e := e) (m := m) (a := a) s0 s3
  have hsp := f_span (a := a) h.e1 h.e6 h.m1 h.m4
  have hs := span_b h
  have hlb0 : 0 ≤ lb e m a s := by
    unfold lb
    by_cases hp : 0 < a + 1 - (if 1 < m then s * (e / 2) else 0)
    · rw [if_pos hp]; omega
    · rw [if_neg hp]; omega
  obtain ⟨ρ', hf, y10, y16, hy, hρ⟩ := fl_inv (g := gNm 10) (body := (dSeq (dSet 16 (oV (dL minD (aCons (oV (dSl (oPl 8) (pSome (d2 (i0D fun i j => .int (i - j)) (oPl 10) (oV (dMeth M_span (oPl 7) aNil)))) (pSome (d2 addD (oPl 10) (oV (dC (.int 1))))))) aNil))))
    (dIte (tOrD (dBl (d2 ltD (oPl 16) (oV (dCall F_least_between (aCons (oPl 7) (aCons (oPl 6) aNil)))))) (tOrD (dTru M_bool (oV (dCall F_is_true_ring (aCons (oPl 7) (aCons (oPl 8) (aCons (oPl 10) (aCons (oPl 16) aNil))))))) (tAndD (dBl (d2 gtD (oPl 16) (oV (dC (.int 0))))) (tNotD (dTru M_bool (oV (dCall F_is_true_ring (aCons (oPl 7) (aCons (oPl 8) (aCons (oPl 10) (aCons (oV (d2 (i0D fun i j => .int (i - j)) (oPl 16) (oV (dC (.int 1))))) aNil))))))))))) (dRet (dC (.bl false))) (dEnd .nx))))
    (fun ρ => ∃ y10 y16 : Option B, (y10 = x10 ∨ ∃ d, y10 = some (.val d)) ∧ ρ = [x0, x1, x2, x3, x4, x5, some (iv s), some (.val (LK e m a)), some (.val (tI L)), some (.val (tI (rings e m a L))), y10, x11, x12, x13, x14, x15, y16, x17, x18, x19, x20, x21, x22, x23])
    ((rings e m a L).map D.int) (fun d hd ρ hI => by
      obtain ⟨y10, y16, hy, rfl⟩ := hI
      obtain ⟨t, ht, rfl⟩ := List.mem_map.mp hd
      obtain ⟨⟨i, hi, h1⟩, h2⟩ := (mem_rings h.e1 h.m1).mp ht
      have h3 := (isR_iff.mp h2).1
      obtain ⟨v, v1, v2, hv⟩ := min_spec (win_ne (e := e) (m := m) (t := t) (L := L) (by omega) hs.1 h1)
      obtain ⟨u, u1, u2, hu⟩ := win_mem (by omega) hs.1 h1 v1
      have hlow := low_between h hN hL s0 h1 h2 u1 u2
      have hvr := lg_rng hL (u := u) (by omega) (by omega)
      rw [← hu] at hlow hvr
      refine ⟨[x0, x1, x2, x3, x4, x5, some (iv s), some (.val (LK e m a)), some (.val (tI L)), some (.val (tI (rings e m a L))), some (iv t), x11, x12, x13, x14, x15, y16, x17, x18, x19, x20, x21, x22, x23], [x0, x1, x2, x3, x4, x5, some (iv s), some (.val (LK e m a)), some (.val (tI L)), some (.val (tI (rings e m a L))), some (iv t), x11, x12, x13, x14, x15, some (iv v), x17, x18, x19, x20, x21, x22, x23], by simp [gNm], ?_, some (iv t), some (iv v), .inr ⟨_, rfl⟩, rfl⟩
      have hcut := cut_tup (L := L) (b := t - (m - 1) * e) (c := t + 1) (by omega) (by omega) (by omega) (by omega)
      have hw : (L.drop (t - (m - 1) * e).toNat).take ((t + 1).toNat - (t - (m - 1) * e).toNat) = win e m L t := rfl
      rw [hw] at hcut
      have hT := f_is_true (f := v) h hL l1 l2 hvr.1 hvr.2 ht
      have a1 : ((win e m L t).all fun z => decide (v < z)) = false := by
        rw [List.all_eq_false]
        exact ⟨v, v1, by simp⟩
      rw [a1] at hT
      have hT2 : 0 < v → F_is_true_ring [.val (LK e m a), .val (tI L), iv t, iv (v - 1)] = .ok [none, none, none, none] (.bl true) := fun hv0 => by
        have := f_is_true (f := v - 1) h hL l1 l2 (by omega) (by omega) ht
        have a2 : ((win e m L t).all fun z => decide (v - 1 < z)) = true := by
          rw [List.all_eq_true]
          intro z hz
          have := v2 z hz
          simp; omega
        rwa [a2] at this
      have ei : ∀ a b : Int, addD (.int a) (.int b) = some (.int (a + b)) := fun _ _ => rfl
      have hnl : ¬ v < lb e m a s := by omega
      generalize tI (win e m L t) = W at hcut hv
      generalize tI (rings e m a L) = RQ
      generalize tI L = TL at hcut hT hT2
      by_cases hv0 : 0 < v
      · have hT2 := hT2 hv0
        simp [cfOf, startE, fin_, outsOf, retag, findTag, dRet, dSeq, dEnd, dNever, dIte, dIf, dDrop, dFld, dSet, toB, dC, dName, dBl, dNot, dAnd, dOr, tAndD, tOrD, tNotD, dTru, dBoolC, boolD, dIsi, dIsi2, dIsC, tyN, isN, d2, d3, oV, oPl, aNil, aCons, aStar, argB, argsB, ownPl, nodupB, wb, wb1, dCall, dMeth, oMake, oMake0, dSetFld, res, resAll, bV_val, bV_own, tD_lst, tD_ins, vals, dL, dLV, dTup, dLst, oLst, sz, ofO, leD, ltD, gtD, geD, i0D, iD, truD, isSq, dFz, R.bind, dAsg, gTp, gsCons, gsNil, gNm, dPar, setAll, dAug, dSetIx, isOwn, dApp, dFor, iVals, iRes, iSeq, dSl, pNo, pSome, dNeg, fdivD, modD, powD, mulA, mulI, absD, intD, max2D, min2D, max3D, min3D, isND, notND, hcut, hv, hT, hT2, hsp, M_span, ei, hlb, hnl, hv0, dTru]
      · simp [cfOf, startE, fin_, outsOf, retag, findTag, dRet, dSeq, dEnd, dNever, dIte, dIf, dDrop, dFld, dSet, toB, dC, dName, dBl, dNot, dAnd, dOr, tAndD, tOrD, tNotD, dTru, dBoolC, boolD, dIsi, dIsi2, dIsC, tyN, isN, d2, d3, oV, oPl, aNil, aCons, aStar, argB, argsB, ownPl, nodupB, wb, wb1, dCall, dMeth, oMake, oMake0, dSetFld, res, resAll, bV_val, bV_own, tD_lst, tD_ins, vals, dL, dLV, dTup, dLst, oLst, sz, ofO, leD, ltD, gtD, geD, i0D, iD, truD, isSq, dFz, R.bind, dAsg, gTp, gsCons, gsNil, gNm, dPar, setAll, dAug, dSetIx, isOwn, dApp, dFor, iVals, iRes, iSeq, dSl, pNo, pSome, dNeg, fdivD, modD, powD, mulA, mulI, absD, intD, max2D, min2D, max3D, min3D, isND, notND, hcut, hv, hT, hsp, M_span, ei, hlb, hnl, hv0, dTru])
    [x0, x1, x2, x3, x4, x5, some (iv s), some (.val (LK e m a)), some (.val (tI L)), some (.val (tI (rings e m a L))), x10, x11, x12, x13, x14, x15, x16, x17, x18, x19, x20, x21, x22, x23] ⟨x10, x16, .inl rfl, rfl⟩
  refine ⟨y10, y16, hy, ?_⟩
  rw [← hρ, ← hf]
  unfold S_law_9 dFor
  have hd : iSeq (dName 9) [x0, x1, x2, x3, x4, x5, some (iv s), some (.val (LK e m a)), some (.val (tI L)), some (.val (tI (rings e m a L))), x10, x11, x12, x13, x14, x15, x16, x17, x18, x19, x20, x21, x22, x23] = .ok ([x0, x1, x2, x3, x4, x5, some (iv s), some (.val (LK e m a)), some (.val (tI L)), some (.val (tI (rings e m a L))), x10, x11, x12, x13, x14, x15, x16, x17, x18, x19, x20, x21, x22, x23], (rings e m a L).map D.int) := by
    simp [iSeq, dName, bV_val, seqOf, dL, R.bind]
  rw [hd]
  rfl
end A
end
section
namespace A
open PySem Zd
set_option autoImplicit false
theorem mem_rI {b e t : Int} : t ∈ rI b e ↔ b ≤ t ∧ t < e := by
  unfold rI
  rw [List.mem_map]
  constructor
  · rintro ⟨i, hi, rfl⟩
    have := List.mem_range.mp hi
    omega
  · rintro ⟨h1, h2⟩
    exact ⟨(t - b).toNat, List.mem_range.mpr (by omega), by omega⟩
theorem str_hot {a : Int} {L : List Int} {k : Nat} {F : List (Int × Int)} (h : Str a L k F) {p : Int × Int} (hp : p ∈ F) {t : Int} (h1 : p.1 ≤ t) (h2 : t < p.2) : a < lg L t := by
  have hm : t ∈ (F.map fun p => rI p.1 p.2).flatten := List.mem_flatten.mpr ⟨_, List.mem_map.mpr ⟨p, hp, rfl⟩, mem_rI.mpr ⟨h1, h2⟩⟩
  rw [h.flat] at hm
  unfold upTo at hm
  simpa using (List.mem_filter.mp hm).2
/-- a first multiple -/
theorem mult_from {b e : Int} (he : 1 ≤ e) (hb : 0 ≤ b) : ∃ i : Nat, b ≤ (i : Int) * e ∧ (i : Int) * e < b + e := by
  have hd := Int.mul_ediv_add_emod (b + e - 1) e
  have hr := mod_lt (a := b + e - 1) (b := e) (by omega)
  have hq : 0 ≤ (b + e - 1) / e := Int.ediv_nonneg (by omega) (by omega)
  obtain ⟨q, hq⟩ := Int.eq_ofNat_of_zero_le hq
  rw [hq, Int.mul_comm] at hd
  exact ⟨q, by omega, by omega⟩
theorem ring_long {e m a b c : Int} {L : List Int} (he : 1 ≤ e) (hm : 1 ≤ m) (hb : 0 ≤ b) (hc : c ≤ L.length) (hh : ∀ t, b ≤ t → t < c → a < lg L t) (hl : e * m ≤ c - b) : ∃ t ∈ rings e m a L, b ≤ t ∧ t < c ∧ t < b + e * m := by
  obtain ⟨i, i1, i2⟩ := mult_from he hb
  have hme : (m - 1) * e + e = e * m := by rw [Int.sub_mul, Int.mul_comm m e]; omega
  have hj : ((i + (m - 1).toNat : Nat) : Int) * e = (i : Int) * e + (m - 1) * e := by
    rw [show ((i + (m - 1).toNat : Nat) : Int) = (i : Int) + (m - 1) by omega, Int.add_mul]
  have hp : 0 ≤ (i : Int) * e := Int.mul_nonneg (by omega) (by omega)
  refine ⟨(i : Int) * e + (m - 1) * e, ?_, by have : 0 ≤ (m - 1) * e := Int.mul_nonneg (by omega) (by omega); omega, by omega, by omega⟩
  rw [mem_rings he hm, isR_iff]
  refine ⟨⟨i + (m - 1).toNat, hj.symm, by omega⟩, by omega, fun j hj => ?_⟩
  have h3 : (j : Int) * e ≤ (m - 1) * e := Int.mul_le_mul_of_nonneg_right (by omega) (by omega)
  have h4 : 0 ≤ (j : Int) * e := Int.mul_nonneg (by omega) (by omega)
  exact hh _ (by omega) (by omega)
theorem near_zero {L : List Int} (hN : Near 0 L) {u v : Int} (h0 : 0 ≤ u) (h1 : u < L.length) (h2 : 0 ≤ v) (h3 : v < L.length) : lg L u = lg L v := by
  have key : ∀ x y : Int, 0 ≤ x → x ≤ y → y < L.length → lg L x = lg L y := fun x y hx hxy hy => by
    have := near_far hN hx (y - x).toNat (by omega)
    rw [show x + ((y - x).toNat : Int) = y by omega] at this
    omega
  by_cases h : u ≤ v
  · exact key u v h0 h h3
  · exact (key v u h2 (by omega) h1).symm
theorem ring_still {e m a b c : Int} {L : List Int} (he : 1 ≤ e) (hm : 1 ≤ m) (hb : 0 ≤ b) (hbc : b < c) (hc : c ≤ L.length) (hN : Near 0 L) (hh : ∀ t, b ≤ t → t < c → a < lg L t) (hl1 : (m - 1) * e + 1 ≤ c - b) (hl2 : e ≤ c - b) : ∃ t ∈ rings e m a L, b ≤ t ∧ t < c := by
  have hall : ∀ t : Int, 0 ≤ t → t < L.length → a < lg L t := fun t h0 h1 => by
    rw [near_zero hN h0 h1 hb (by omega)]
    exact hh b (by omega) hbc
  have hs : 0 ≤ (m - 1) * e := Int.mul_nonneg (by omega) (by omega)
  by_cases h : b ≤ (m - 1) * e
  · refine ⟨(m - 1) * e, ?_, h, by omega⟩
    rw [mem_rings he hm, isR_iff]
    refine ⟨⟨(m - 1).toNat, by rw [show (((m - 1).toNat : Nat) : Int) = m - 1 by omega], by omega⟩, by omega, fun j hj => ?_⟩
    have hbk := back_in (t := (m - 1) * e) he (by omega) hj
    exact hall ((m - 1) * e - (j : Int) * e) hbk.1 (by have := hbk.2; omega)
  · obtain ⟨i, i1, i2⟩ := mult_from he hb
    refine ⟨(i : Int) * e, ?_, i1, by omega⟩
    rw [mem_rings he hm, isR_iff]
    refine ⟨⟨i, rfl, by omega⟩, by omega, fun j hj => ?_⟩
    have hbk := back_in (t := (i : Int) * e) he (by omega) hj
    exact hall ((i : Int) * e - (j : Int) * e) hbk.1 (by have := hbk.2; omega)
end A
end
section
namespace A
open PySem Zd
set_option autoImplicit false
theorem lb_le {e m a s e' m' s' : Int} (h : (if 1 < m' then s' * (e' / 2) else 0) ≤ (if 1 < m then s * (e / 2) else 0)) : lb e m a s ≤ lb e' m' a s' := by
  unfold lb
  generalize (if 1 < m' then s' * (e' / 2) else 0) = x at h
  generalize (if 1 < m then s * (e / 2) else 0) = y at h
  by_cases h1 : 0 < a + 1 - y <;> by_cases h2 : 0 < a + 1 - x <;> simp [h1, h2] <;> omega
theorem lb_one {e m a s : Int} (he : 1 ≤ e) (hs : 0 ≤ s) : lb e m a s ≤ lb e 1 a s := lb_le (by
  rw [if_neg (by omega)]
  by_cases hm : 1 < m
  · rw [if_pos hm]; exact Int.mul_nonneg hs (by omega)
  · rw [if_neg hm]; omega)
theorem lb_step {e m a s : Int} (he : 1 ≤ e) : lb e m a s ≤ lb e m a (s - 1) := lb_le (by
  by_cases hm : 1 < m
  · rw [if_pos hm, if_pos hm]; exact Int.mul_le_mul_of_nonneg_right (by omega) (by omega)
  · rw [if_neg hm, if_neg hm]; omega)
theorem lb_every {e m a s : Int} (hs : 0 ≤ s) : lb e m a s ≤ lb (e - 1) m a s := lb_le (by
  by_cases hm : 1 < m
  · rw [if_pos hm, if_pos hm]; exact Int.mul_le_mul_of_nonneg_left (by omega) hs
  · rw [if_neg hm, if_neg hm]; omega)
theorem st11 {x0 x1 x2 x3 x4 x5 x6 x7 x8 x9 x10 x11 x12 x13 x14 x15 x16 x17 x18 x19 x20 x21 x22 x23 : Option B} {e m a s : Int} (h : Okl e m a) (s0 : 0 ≤ s) (s3 : s ≤ 3) :
    S_law_11 [x0, x1, x2, some (iv e), some (iv m), some (iv a), some (iv s), some (.val (LK e m a)), x8, x9, x10, x11, x12, x13, x14, x15, x16, x17, x18, x19, x20, x21, x22, x23] = .ok ([x0, x1, x2, some (iv e), some (iv m), some (iv a), some (iv s), some (.val (LK e m a)), x8, x9, x10, x11, x12, x13, x14, x15, x16, x17, x18, x19, x20, x21, x22, x23], .nx) := by
  have hk1 := f_mk (e := e) (m := 1) (a := a) ⟨h.e1, h.e6, by omega, by omega, h.a0, h.a8⟩ 0
  have l0 := f_least_between (e := e) (m := m) (a := a) s0 s3
  have l1 := f_least_between (e := e) (m := 1) (a := a) s0 s3
  have g1 : ¬ lb e 1 a s < lb e m a s := by have := lb_one (m := m) (a := a) h.e1 s0; omega
  have g2 : ¬ lb e m a (s - 1) < lb e m a s := by have := lb_step (m := m) (a := a) (s := s) h.e1; omega
  have g3 : ¬ lb (e - 1) m a s < lb e m a s := by have := lb_every (e := e) (m := m) (a := a) s0; omega
  unfold S_law_11
  refine ite_no (or_no ?_ (or_no (and_no (decide (0 < s)) ?_ (fun g => ?_)) (and_no (decide (1 < e)) ?_ (fun g => ?_))))
  · simp [cfOf, startE, fin_, outsOf, retag, findTag, dRet, dSeq, dEnd, dNever, dIte, dIf, dDrop, dFld, dSet, toB, dC, dName, dBl, dNot, dAnd, dOr, tAndD, tOrD, tNotD, dTru, dBoolC, boolD, dIsi, dIsi2, dIsC, tyN, isN, d2, d3, oV, oPl, aNil, aCons, aStar, seqOf, argB, argsB, ownPl, nodupB, wb, wb1, dCall, dMeth, oMake, oMake0, dSetFld, res, resAll, bV_val, bV_own, tD_lst, tD_ins, vals, dL, dLV, dTup, dLst, oLst, sz, ofO, leD, ltD, gtD, geD, i0D, iD, truD, isSq, lenD, dFz, R.bind, dAsg, gTp, gsCons, gsNil, gNm, dPar, setAll, dAug, dSetIx, isOwn, dApp, dFor, iVals, iRes, iSeq, dSl, pNo, pSome, cutD, dNeg, fdivD, modD, powD, mulA, mulI, addD, absD, intD, max2D, min2D, max3D, min3D, isND, notND, hk1, l0, l1, g1]
    try omega
  · simp [cfOf, startE, fin_, outsOf, retag, findTag, dRet, dSeq, dEnd, dNever, dIte, dIf, dDrop, dFld, dSet, toB, dC, dName, dBl, dNot, dAnd, dOr, tAndD, tOrD, tNotD, dTru, dBoolC, boolD, dIsi, dIsi2, dIsC, tyN, isN, d2, d3, oV, oPl, aNil, aCons, aStar, seqOf, argB, argsB, ownPl, nodupB, wb, wb1, dCall, dMeth, oMake, oMake0, dSetFld, res, resAll, bV_val, bV_own, tD_lst, tD_ins, vals, dL, dLV, dTup, dLst, oLst, sz, ofO, leD, ltD, gtD, geD, i0D, iD, truD, isSq, lenD, dFz, R.bind, dAsg, gTp, gsCons, gsNil, gNm, dPar, setAll, dAug, dSetIx, isOwn, dApp, dFor, iVals, iRes, iSeq, dSl, pNo, pSome, cutD, dNeg, fdivD, modD, powD, mulA, mulI, addD, absD, intD, max2D, min2D, max3D, min3D, isND, notND]
  · have l2 := f_least_between (e := e) (m := m) (a := a) (s := s - 1) (by simp at g; omega) (by omega)
    simp [cfOf, startE, fin_, outsOf, retag, findTag, dRet, dSeq, dEnd, dNever, dIte, dIf, dDrop, dFld, dSet, toB, dC, dName, dBl, dNot, dAnd, dOr, tAndD, tOrD, tNotD, dTru, dBoolC, boolD, dIsi, dIsi2, dIsC, tyN, isN, d2, d3, oV, oPl, aNil, aCons, aStar, seqOf, argB, argsB, ownPl, nodupB, wb, wb1, dCall, dMeth, oMake, oMake0, dSetFld, res, resAll, bV_val, bV_own, tD_lst, tD_ins, vals, dL, dLV, dTup, dLst, oLst, sz, ofO, leD, ltD, gtD, geD, i0D, iD, truD, isSq, lenD, dFz, R.bind, dAsg, gTp, gsCons, gsNil, gNm, dPar, setAll, dAug, dSetIx, isOwn, dApp, dFor, iVals, iRes, iSeq, dSl, pNo, pSome, cutD, dNeg, fdivD, modD, powD, mulA, mulI, addD, absD, intD, max2D, min2D, max3D, min3D, isND, notND, l0, l2, g2]
    try omega
  · simp [cfOf, startE, fin_, outsOf, retag, findTag, dRet, dSeq, dEnd, dNever, dIte, dIf, dDrop, dFld, dSet, toB, dC, dName, dBl, dNot, dAnd, dOr, tAndD, tOrD, tNotD, dTru, dBoolC, boolD, dIsi, dIsi2, dIsC, tyN, isN, d2, d3, oV, oPl, aNil, aCons, aStar, seqOf, argB, argsB, ownPl, nodupB, wb, wb1, dCall, dMeth, oMake, oMake0, dSetFld, res, resAll, bV_val, bV_own, tD_lst, tD_ins, vals, dL, dLV, dTup, dLst, oLst, sz, ofO, leD, ltD, gtD, geD, i0D, iD, truD, isSq, lenD, dFz, R.bind, dAsg, gTp, gsCons, gsNil, gNm, dPar, setAll, dAug, dSetIx, isOwn, dApp, dFor, iVals, iRes, iSeq, dSl, pNo, pSome, cutD, dNeg, fdivD, modD, powD, mulA, mulI, addD, absD, intD, max2D, min2D, max3D, min3D, isND, notND]
  · have l2 := f_least_between (e := e - 1) (m := m) (a := a) s0 s3
    have hk2 := f_mk (e := e - 1) (m := m) (a := a) ⟨by simp at g; omega, by have := h.e6; omega, h.m1, h.m4, h.a0, h.a8⟩ 0
    simp [cfOf, startE, fin_, outsOf, retag, findTag, dRet, dSeq, dEnd, dNever, dIte, dIf, dDrop, dFld, dSet, toB, dC, dName, dBl, dNot, dAnd, dOr, tAndD, tOrD, tNotD, dTru, dBoolC, boolD, dIsi, dIsi2, dIsC, tyN, isN, d2, d3, oV, oPl, aNil, aCons, aStar, seqOf, argB, argsB, ownPl, nodupB, wb, wb1, dCall, dMeth, oMake, oMake0, dSetFld, res, resAll, bV_val, bV_own, tD_lst, tD_ins, vals, dL, dLV, dTup, dLst, oLst, sz, ofO, leD, ltD, gtD, geD, i0D, iD, truD, isSq, lenD, dFz, R.bind, dAsg, gTp, gsCons, gsNil, gNm, dPar, setAll, dAug, dSetIx, isOwn, dApp, dFor, iVals, iRes, iSeq, dSl, pNo, pSome, cutD, dNeg, fdivD, modD, powD, mulA, mulI, addD, absD, intD, max2D, min2D, max3D, min3D, isND, notND, hk2, l0, l2, g3]
    try omega
end A
end
section
namespace A
open PySem Zd
set_option autoImplicit false
theorem f_judge_sure {e m a s f : Int} (h : Okl e m a) (s0 : 0 ≤ s) (s3 : s ≤ 3) (f0 : 0 ≤ f) (f9 : f ≤ 9) (hf : f < lb e m a s) :
    F_judge_rings [.val (LK e m a), iv s, iv f] = .ok [none, none, none] (.ins 4 []) := by
  have l0 := f_least_between (e := e) (m := m) (a := a) s0 s3
  have hc := f_check_claim [.int e, .int m, .int a] s0 s3 f0 f9
  simp [cfOf, startE, fin_, outsOf, retag, findTag, dRet, dSeq, dEnd, dNever, dIte, dIf, dDrop, dFld, dSet, toB, dC, dName, dBl, dNot, dAnd, dOr, tAndD, tOrD, tNotD, dTru, dBoolC, boolD, dIsi, dIsi2, dIsC, tyN, isN, d2, d3, oV, oPl, aNil, aCons, aStar, seqOf, argB, argsB, ownPl, nodupB, wb, wb1, dCall, dMeth, oMake, oMake0, dSetFld, res, resAll, bV_val, bV_own, tD_lst, tD_ins, vals, dL, dLV, dTup, dLst, oLst, sz, ofO, leD, ltD, gtD, geD, i0D, iD, truD, isSq, lenD, dFz, R.bind, dAsg, gTp, gsCons, gsNil, gNm, dPar, setAll, dAug, dSetIx, isOwn, dApp, dFor, iVals, iRes, iSeq, dSl, pNo, pSome, cutD, dNeg, fdivD, modD, powD, mulA, mulI, addD, absD, intD, max2D, min2D, max3D, min3D, isND, notND, F_judge_rings, D_judge_rings, hc, l0, hf]
end A
end
section
namespace A
open PySem Zd
set_option autoImplicit false
def dnI (e t : Int) : Int := if 0 ≤ t ∧ t ≤ e then (let q := if e - t < t then e - t else t; if e / 2 < q then e / 2 else q) else 0
def tdI (e a s t : Int) : Int := if a + 1 - s * dnI e t > 0 then a + 1 - s * dnI e t else 0
theorem loop_told {e m a s f : Int} (s0 : 0 ≤ s) (s3 : s ≤ 3) : ∀ (ts : List Int) (F : List Int) (x6 x7 : Option B), F.length + ts.length ≤ 1000 → ∃ x6' x7' : Option B,
    fl (gNm 6) (dSeq (dSet 7 (oV (dIf (dBl (d3 leD leD (oV (dC (.int 0))) (oPl 6) (oV (dFld fp_every (oPl 0))))) (dL min3D (aCons (oPl 6) (aCons (oV (d2 (i0D fun i j => .int (i - j)) (oV (dFld fp_every (oPl 0))) (oPl 6))) (aCons (oPl 4) aNil)))) (dC (.int 0)))))
    (dApp 5 (dL max2D (aCons (oV (dC (.int 0))) (aCons (oV (d2 (i0D fun i j => .int (i - j)) (oPl 3) (oV (d2 mulA (oPl 1) (oPl 7))))) aNil)))))
    (ts.map D.int) [some (.val (LK e m a)), some (iv s), some (iv f), some (iv (a + 1)), some (iv (e / 2)), some (.own 0 (.lst (F.map D.int))), x6, x7] =
    .ok ([some (.val (LK e m a)), some (iv s), some (iv f), some (iv (a + 1)), some (iv (e / 2)), some (.own 0 (.lst ((F ++ ts.map (tdI e a s)).map D.int))), x6', x7'], .nx)
  | [], F, x6, x7, _ => ⟨x6, x7, by simp [fl]⟩
  | t :: ts, F, x6, x7, h => by
    obtain ⟨x6', x7', ih⟩ := loop_told (e := e) (m := m) (a := a) (f := f) s0 s3 ts (F ++ [tdI e a s t]) (some (iv t)) (some (iv (dnI e t))) (by simp only [List.length_append, List.length_cons, List.length_nil] at h ⊢; omega)
    refine ⟨x6', x7', ?_⟩
    have e1 : F ++ (t :: ts).map (tdI e a s) = F ++ [tdI e a s t] ++ ts.map (tdI e a s) := by simp
    rw [e1, ← ih]
    have s64s : small64 s = true := s64 (by omega) (by omega)
    have hz : F.length + 1 ≤ 1000000 := by simp only [List.length_cons] at h; omega
    have m3 : min3D [.int t, .int (e - t), .int (e / 2)] = some (.int (let q := if e - t < t then e - t else t; if e / 2 < q then e / 2 else q)) := rfl
    have m2 : max2D [.int 0, .int (a + 1 - s * dnI e t)] = some (.int (tdI e a s t)) := rfl
    simp only [List.map_cons, fl]
    by_cases h0 : 0 ≤ t
    · by_cases h1 : t ≤ e
      · have hdn : dnI e t = (let q := if e - t < t then e - t else t; if e / 2 < q then e / 2 else q) := if_pos ⟨h0, h1⟩
        rw [← hdn] at m3
        simp [cfOf, startE, fin_, outsOf, retag, findTag, dRet, dSeq, dEnd, dNever, dIte, dIf, dDrop, dFld, dSet, toB, dC, dName, dBl, dNot, dAnd, dOr, tAndD, tOrD, tNotD, dTru, dBoolC, boolD, dIsi, dIsi2, dIsC, tyN, isN, d2, d3, oV, oPl, aNil, aCons, aStar, seqOf, argB, argsB, ownPl, nodupB, wb, wb1, dCall, dMeth, oMake, oMake0, dSetFld, res, resAll, bV_val, bV_own, tD_lst, tD_ins, vals, dL, dLV, dTup, dLst, oLst, sz, ofO, leD, ltD, gtD, geD, i0D, iD, truD, isSq, lenD, dFz, R.bind, dAsg, gTp, gsCons, gsNil, gNm, dPar, setAll, dAug, dSetIx, isOwn, dApp, dFor, iVals, iRes, iSeq, dSl, pNo, pSome, cutD, dNeg, fdivD, modD, powD, mulA, mulI, addD, absD, intD, min2D, max3D, isND, notND, fp_every, h0, h1, m3, m2, s64s, hz]
      · have hdn : dnI e t = 0 := if_neg (fun hc => h1 hc.2)
        rw [hdn] at m2 ⊢
        simp at m2
        simp [cfOf, startE, fin_, outsOf, retag, findTag, dRet, dSeq, dEnd, dNever, dIte, dIf, dDrop, dFld, dSet, toB, dC, dName, dBl, dNot, dAnd, dOr, tAndD, tOrD, tNotD, dTru, dBoolC, boolD, dIsi, dIsi2, dIsC, tyN, isN, d2, d3, oV, oPl, aNil, aCons, aStar, seqOf, argB, argsB, ownPl, nodupB, wb, wb1, dCall, dMeth, oMake, oMake0, dSetFld, res, resAll, bV_val, bV_own, tD_lst, tD_ins, vals, dL, dLV, dTup, dLst, oLst, sz, ofO, leD, ltD, gtD, geD, i0D, iD, truD, isSq, lenD, dFz, R.bind, dAsg, gTp, gsCons, gsNil, gNm, dPar, setAll, dAug, dSetIx, isOwn, dApp, dFor, iVals, iRes, iSeq, dSl, pNo, pSome, cutD, dNeg, fdivD, modD, powD, mulA, mulI, addD, absD, intD, min2D, max3D, isND, notND, fp_every, h0, h1, m2, s64s, hz]
    · have hdn : dnI e t = 0 := if_neg (fun hc => h0 hc.1)
      rw [hdn] at m2 ⊢
      simp at m2
      simp [cfOf, startE, fin_, outsOf, retag, findTag, dRet, dSeq, dEnd, dNever, dIte, dIf, dDrop, dFld, dSet, toB, dC, dName, dBl, dNot, dAnd, dOr, tAndD, tOrD, tNotD, dTru, dBoolC, boolD, dIsi, dIsi2, dIsC, tyN, isN, d2, d3, oV, oPl, aNil, aCons, aStar, seqOf, argB, argsB, ownPl, nodupB, wb, wb1, dCall, dMeth, oMake, oMake0, dSetFld, res, resAll, bV_val, bV_own, tD_lst, tD_ins, vals, dL, dLV, dTup, dLst, oLst, sz, ofO, leD, ltD, gtD, geD, i0D, iD, truD, isSq, lenD, dFz, R.bind, dAsg, gTp, gsCons, gsNil, gNm, dPar, setAll, dAug, dSetIx, isOwn, dApp, dFor, iVals, iRes, iSeq, dSl, pNo, pSome, cutD, dNeg, fdivD, modD, powD, mulA, mulI, addD, absD, intD, min2D, max3D, isND, notND, fp_every, h0, m2, s64s, hz]
end A
end
section
namespace A
open PySem Zd
set_option autoImplicit false
/-- the lengths that judge_rings tells -/
def toldI (e m a s : Int) : List Int := ((List.range ((m - 1) * e + 1).toNat).map fun (i : Nat) => (i : Int)).map (tdI e a s)
theorem f_judge_lying {e m a s f : Int} (h : Okl e m a) (s0 : 0 ≤ s) (s3 : s ≤ 3) (f0 : 0 ≤ f) (f9 : f ≤ 9) (hf : ¬ f < lb e m a s) :
    F_judge_rings [.val (LK e m a), iv s, iv f] = .ok [none, none, none] (.ins 5 [tI (toldI e m a s)]) := by
  have l0 := f_least_between (e := e) (m := m) (a := a) s0 s3
  have hc := f_check_claim [.int e, .int m, .int a] s0 s3 f0 f9
  have hsp := f_span (a := a) h.e1 h.e6 h.m1 h.m4
  have hs := span_b h
  have l2 : Nat.log2 2 < 9000 := by decide
  obtain ⟨x6, x7, hl⟩ := loop_told (e := e) (m := m) (a := a) (f := f) s0 s3 ((List.range ((m - 1) * e + 1).toNat).map fun (i : Nat) => (i : Int)) [] none none (by simp only [List.length_nil, List.length_map, List.length_range]; omega)
  have hr : rng1 [.int ((m - 1) * e + 1)] = some (((List.range ((m - 1) * e + 1).toNat).map fun (i : Nat) => (i : Int)).map D.int) := by
    show (if _ then _ else _) = _
    rw [if_pos (near_ok (by omega) (by omega))]
    unfold rngL
    rw [List.map_map]
    congr 1
    apply List.map_congr_left
    intro i _
    simp
  have ht : tupleD [.lst ((toldI e m a s).map D.int)] = some (tI (toldI e m a s)) := rfl
  have hk : F_kept_row [.val (tI (toldI e m a s))] = .ok [none] (tI (toldI e m a s)) := f_kept_row ((toldI e m a s).map D.int)
  have eN : [] ++ ((List.range ((m - 1) * e + 1).toNat).map fun (i : Nat) => (i : Int)).map (tdI e a s) = toldI e m a s := rfl
  rw [eN] at hl
  simp only [List.map_nil] at hl
  have ei : ∀ a b : Int, addD (.int a) (.int b) = some (.int (a + b)) := fun _ _ => rfl
  generalize ((List.range ((m - 1) * e + 1).toNat).map fun (i : Nat) => (i : Int)).map D.int = RR at hr hl
  generalize tI (toldI e m a s) = TQ at ht hk
  generalize (toldI e m a s).map D.int = Q at hl ht
  simp [cfOf, startE, fin_, outsOf, retag, findTag, dRet, dSeq, dEnd, dNever, dIte, dIf, dDrop, dFld, dSet, toB, dC, dName, dBl, dNot, dAnd, dOr, tAndD, tOrD, tNotD, dTru, dBoolC, boolD, dIsi, dIsi2, dIsC, tyN, isN, d2, d3, oV, oPl, aNil, aCons, aStar, seqOf, argB, argsB, ownPl, nodupB, wb, wb1, dCall, dMeth, oMake, oMake0, dSetFld, res, resAll, bV_val, bV_own, tD_lst, tD_ins, vals, dL, dLV, dTup, dLst, oLst, sz, ofO, leD, ltD, gtD, geD, i0D, iD, truD, isSq, lenD, dFz, R.bind, dAsg, gTp, gsCons, gsNil, gNm, dPar, setAll, dAug, dSetIx, isOwn, dApp, dFor, iVals, iRes, iSeq, dSl, pNo, pSome, cutD, dNeg, fdivD, modD, mulA, mulI, absD, intD, max2D, min2D, max3D, min3D, isND, notND] at hl
  simp [cfOf, startE, fin_, outsOf, retag, findTag, dRet, dSeq, dEnd, dNever, dIte, dIf, dDrop, dFld, dSet, toB, dC, dName, dBl, dNot, dAnd, dOr, tAndD, tOrD, tNotD, dTru, dBoolC, boolD, dIsi, dIsi2, dIsC, tyN, isN, d2, d3, oV, oPl, aNil, aCons, aStar, seqOf, argB, argsB, ownPl, nodupB, wb, wb1, dCall, dMeth, oMake, oMake0, dSetFld, res, resAll, bV_val, bV_own, tD_lst, tD_ins, vals, dL, dLV, dTup, dLst, oLst, sz, ofO, leD, ltD, gtD, geD, i0D, iD, truD, isSq, lenD, dFz, R.bind, dAsg, gTp, gsCons, gsNil, gNm, dPar, setAll, dAug, dSetIx, isOwn, dApp, dFor, iVals, iRes, iSeq, dSl, pNo, pSome, cutD, dNeg, fdivD, modD, mulA, mulI, absD, intD, max2D, min2D, max3D, min3D, isND, notND, F_judge_rings, D_judge_rings, hc, l0, hf, hsp, M_span, l2, hr, hl, ht, ei, F_Lyingdd_initdd, D_Lyingdd_initdd, fp_above, fp_every, fp_lengths, hk]
end A
end
section
namespace A
open PySem Zd
set_option autoImplicit false
theorem f_judge_rings {e m a s f : Int} (h : Okl e m a) (s0 : 0 ≤ s) (s3 : s ≤ 3) (f0 : 0 ≤ f) (f9 : f ≤ 9) : ∃ c : Nat, ∃ xs : List D, F_judge_rings [.val (LK e m a), iv s, iv f] = .ok [none, none, none] (.ins c xs) ∧ ((f < lb e m a s ∧ c = 4) ∨ (¬ f < lb e m a s ∧ c = 5)) := by
  by_cases hf : f < lb e m a s
  · exact ⟨4, [], f_judge_sure h s0 s3 f0 f9 hf, .inl ⟨hf, rfl⟩⟩
  · exact ⟨5, _, f_judge_lying h s0 s3 f0 f9 hf, .inr ⟨hf, rfl⟩⟩
theorem and_nn {a b : DTn} {ρ : Zd.Env} (g k : Bool) (ha : a ρ = .ok (ρ, g)) (hb : b ρ = .ok (ρ, k)) (h : g = true → k = false) : tAndD a b ρ = .ok (ρ, false) := by
  cases g
  · simp [tAndD, ha, R.bind]
  · simp [tAndD, ha, hb, R.bind, h rfl]
theorem not_b {a : DTn} {ρ : Zd.Env} {g : Bool} (ha : a ρ = .ok (ρ, g)) : tNotD a ρ = .ok (ρ, !g) := by simp [tNotD, ha, R.bind]
theorem tru_c {c : DEn} {ρ : Zd.Env} {e m a s f : Int} (h : Okl e m a) (s0 : 0 ≤ s) (s3 : s ≤ 3) (f0 : 0 ≤ f) (f9 : f ≤ 9)
    (hc : ∀ d, F_judge_rings [.val (LK e m a), iv s, iv f] = .ok [none, none, none] d → c ρ = .ok (ρ, d)) : dTru M_bool (oV c) ρ = .ok (ρ, decide (f < lb e m a s)) := by
  obtain ⟨k, xs, h1, h2⟩ := f_judge_rings h s0 s3 f0 f9
  have h3 := hc _ h1
  rcases h2 with ⟨hf, rfl⟩ | ⟨hf, rfl⟩
  · simp [dTru, oV, h3, R.bind, res, truD, M_bool, F_Suredd_booldd, D_Suredd_booldd, hf, cfOf, startE, fin_, outsOf, retag, findTag, dRet, dSeq, dEnd, dNever, dIte, dIf, dDrop, dFld, dSet, toB, dC, dName, dBl, dNot, dAnd, dOr, tAndD, tOrD, tNotD, dTru, dBoolC, boolD, dIsi, dIsi2, dIsC, tyN, isN, d2, d3, oV, oPl, aNil, aCons, aStar, seqOf, argB, argsB, ownPl, nodupB, wb, wb1, dCall, dMeth, oMake, oMake0, dSetFld, res, resAll, bV_val, bV_own, tD_lst, tD_ins, vals, dL, dLV, dTup, dLst, oLst, sz, ofO, leD, ltD, gtD, geD, i0D, iD, truD, isSq, lenD, dFz, R.bind, dAsg, gTp, gsCons, gsNil, gNm, dPar, setAll, dAug, dSetIx, isOwn, dApp, dFor, iVals, iRes, iSeq, dSl, pNo, pSome, cutD, dNeg, fdivD, modD, powD, mulA, mulI, addD, absD, intD, max2D, min2D, max3D, min3D, isND, notND]
  · simp [dTru, oV, h3, R.bind, res, truD, M_bool, F_Lyingdd_booldd, D_Lyingdd_booldd, hf, cfOf, startE, fin_, outsOf, retag, findTag, dRet, dSeq, dEnd, dNever, dIte, dIf, dDrop, dFld, dSet, toB, dC, dName, dBl, dNot, dAnd, dOr, tAndD, tOrD, tNotD, dTru, dBoolC, boolD, dIsi, dIsi2, dIsC, tyN, isN, d2, d3, oV, oPl, aNil, aCons, aStar, seqOf, argB, argsB, ownPl, nodupB, wb, wb1, dCall, dMeth, oMake, oMake0, dSetFld, res, resAll, bV_val, bV_own, tD_lst, tD_ins, vals, dL, dLV, dTup, dLst, oLst, sz, ofO, leD, ltD, gtD, geD, i0D, iD, truD, isSq, lenD, dFz, R.bind, dAsg, gTp, gsCons, gsNil, gNm, dPar, setAll, dAug, dSetIx, isOwn, dApp, dFor, iVals, iRes, iSeq, dSl, pNo, pSome, cutD, dNeg, fdivD, modD, powD, mulA, mulI, addD, absD, intD, max2D, min2D, max3D, min3D, isND, notND]
end A
end
section
namespace A
open PySem Zd
set_option autoImplicit false
theorem fl_inv2 {α : Type} {g : D → Zd.Env → Option Zd.Env} {body : DSn} (f : α → D) (I : Zd.Env → Prop) (xs : List α) (h : ∀ x ∈ xs, ∀ ρ, I ρ → ∃ ρ1 ρ2, g (f x) ρ = some ρ1 ∧ body ρ1 = .ok (ρ2, .nx) ∧ I ρ2) (ρ : Zd.Env) (hi : I ρ) : ∃ ρ', fl g body (xs.map f) ρ = .ok (ρ', .nx) ∧ I ρ' :=
  fl_inv I (xs.map f) (fun d hd ρ hI => by
    obtain ⟨x, hx, rfl⟩ := List.mem_map.mp hd
    exact h x hx ρ hI) ρ hi
theorem tand_b {a b : DTn} {ρ : Zd.Env} (g k : Bool) (ha : a ρ = .ok (ρ, g)) (hb : g = true → b ρ = .ok (ρ, k)) : tAndD a b ρ = .ok (ρ, g && k) := by
  cases g
  · simp [tAndD, ha, R.bind]
  · simp [tAndD, ha, hb, R.bind]
def nw : Option B → Bool
  | some (.own _ _) => false
  | _ => true
theorem st10 {x0 x1 x2 x3 x4 x5 x6 x7 x8 x9 x10 x11 x12 x13 x14 x15 x16 x17 x18 x19 x20 x21 x22 x23 : Option B} {e m a s : Int} {L : List Int} (h : Okl e m a) (hL : InNine L) (hN : Near s L) (s0 : 0 ≤ s) (s3 : s ≤ 3) (l1 : 1 ≤ L.length) (l2 : L.length ≤ 80) (w14 : nw x14 = true) (w15 : nw x15 = true)
    (hn : ∀ y14 y15 : Int, noOwn [x0, x1, x2, x3, x4, some (iv a), some (iv s), some (.val (LK e m a)), some (.val (tI L)), some (.val (tI (rings e m a L))), x10, x11, x12, x13, some (iv y14), some (iv y15), x16, x17, x18, x19, x20, x21, x22, x23] [10] = true) : ∃ y14 y15 : Option B, (nw y14 = true ∧ nw y15 = true) ∧
    S_law_10 [x0, x1, x2, x3, x4, some (iv a), some (iv s), some (.val (LK e m a)), some (.val (tI L)), some (.val (tI (rings e m a L))), x10, x11, x12, x13, x14, x15, x16, x17, x18, x19, x20, x21, x22, x23] = .ok ([x0, x1, x2, x3, x4, some (iv a), some (iv s), some (.val (LK e m a)), some (.val (tI L)), some (.val (tI (rings e m a L))), x10, x11, x12, x13, y14, y15, x16, x17, x18, x19, x20, x21, x22, x23], .nx) := by
  have e1 := h.e1; have e6 := h.e6; have m1 := h.m1; have m4 := h.m4; have a0 := h.a0; have a8 := h.a8
  have hlen : (rings e m a L).length ≤ 1000 := Nat.le_trans (rings_len e1 m1) (by omega)
  obtain ⟨F, hF, hs⟩ := f_stretches (a := a) hL l1 l2 a0 (by omega)
  have hlr := f_latest_ring (e := e) (m := m) (a := a) e1 e6 m1 m4 s0 s3
  obtain ⟨ρ', hf, y14, y15, hw, hρ⟩ := fl_inv2 (g := gTp (gsCons (gNm 14) (gsCons (gNm 15) gsNil))) (body := (dIte (tOrD (tAndD (dBl (d2 geD (oV (d2 (i0D fun i j => .int (i - j)) (oPl 15) (oPl 14))) (oV (dCall F_latest_ring (aCons (oPl 7) (aCons (oPl 6) aNil)))))) (tNotD (dBl (dL anyD (aCons (oLc (iSeq (dName 9)) [10] (gNm 10) tTrue (d3 leD ltD (oPl 14) (oPl 10) (oPl 15))) aNil))))) (tAndD (dBl (d2 gtD (oV (d2 (i0D fun i j => .int (i - j)) (oPl 15) (oPl 14))) (oV (dCall F_latest_ring (aCons (oPl 7) (aCons (oPl 6) aNil)))))) (tAndD (dBl (d2 gtD (oPl 6) (oV (dC (.int 0))))) (tNotD (dBl (dL anyD (aCons (oLc (iSeq (dName 9)) [10] (gNm 10) tTrue (d3 leD ltD (oPl 14) (oPl 10) (oV (d2 addD (oPl 14) (oV (dCall F_latest_ring (aCons (oPl 7) (aCons (oPl 6) aNil)))))))) aNil))))))) (dRet (dC (.bl false))) (dEnd .nx)))
    pr (fun ρ => ∃ y14 y15 : Option B, (nw y14 = true ∧ nw y15 = true) ∧ ρ = [x0, x1, x2, x3, x4, some (iv a), some (iv s), some (.val (LK e m a)), some (.val (tI L)), some (.val (tI (rings e m a L))), x10, x11, x12, x13, y14, y15, x16, x17, x18, x19, x20, x21, x22, x23]) F (fun p hp ρ hI => by
      obtain ⟨y14, y15, _, rfl⟩ := hI
      obtain ⟨b, c⟩ := p
      have hin := hF.inn _ hp
      have hot : ∀ t, b ≤ t → t < c → a < lg L t := fun t => str_hot hF hp
      simp only at hin
      refine ⟨[x0, x1, x2, x3, x4, some (iv a), some (iv s), some (.val (LK e m a)), some (.val (tI L)), some (.val (tI (rings e m a L))), x10, x11, x12, x13, some (iv b), some (iv c), x16, x17, x18, x19, x20, x21, x22, x23], [x0, x1, x2, x3, x4, some (iv a), some (iv s), some (.val (LK e m a)), some (.val (tI L)), some (.val (tI (rings e m a L))), x10, x11, x12, x13, some (iv b), some (iv c), x16, x17, x18, x19, x20, x21, x22, x23], by simp [pr, gTp, gsCons, gsNil, gNm, seqOf], ?_, _, _, ⟨rfl, rfl⟩, rfl⟩
      have hd : iSeq (dName 9) [x0, x1, x2, x3, x4, some (iv a), some (iv s), some (.val (LK e m a)), some (.val (tI L)), some (.val (tI (rings e m a L))), x10, x11, x12, x13, some (iv b), some (iv c), x16, x17, x18, x19, x20, x21, x22, x23] = .ok ([x0, x1, x2, x3, x4, some (iv a), some (iv s), some (.val (LK e m a)), some (.val (tI L)), some (.val (tI (rings e m a L))), x10, x11, x12, x13, some (iv b), some (iv c), x16, x17, x18, x19, x20, x21, x22, x23], (rings e m a L).map D.int) := by
        simp [iSeq, dName, bV_val, seqOf, dL, R.bind]
      have hff : (rings e m a L).filter (fun _ => true) = rings e m a L := by simp
      have c1 := lc_int (v := 10) (t := tTrue) (c := d3 leD ltD (oPl 14) (oPl 10) (oPl 15)) (fun t => true) (fun t => .bl (decide (b ≤ t) && decide (t < c))) (by simp) (hn b c) hd (fun x hx => rfl)
        (fun x hx _ => by
          generalize tI L = TL
          generalize tI (rings e m a L) = RQ
          by_cases hbx : b ≤ x <;> simp [cfOf, startE, fin_, outsOf, retag, findTag, dRet, dSeq, dEnd, dNever, dIte, dIf, dDrop, dFld, dSet, toB, dC, dName, dBl, dNot, dAnd, dOr, tAndD, tOrD, tNotD, dTru, dBoolC, boolD, dIsi, dIsi2, dIsC, tyN, isN, d2, d3, oV, oPl, aNil, aCons, aStar, seqOf, argB, argsB, ownPl, nodupB, wb, wb1, dCall, dMeth, oMake, oMake0, dSetFld, res, resAll, bV_val, bV_own, tD_lst, tD_ins, vals, dL, dLV, dTup, dLst, oLst, sz, ofO, leD, ltD, gtD, geD, i0D, iD, truD, isSq, lenD, dFz, R.bind, dAsg, gTp, gsCons, gsNil, gNm, dPar, setAll, dAug, dSetIx, isOwn, dApp, dFor, iVals, iRes, iSeq, dSl, pNo, pSome, cutD, dNeg, fdivD, modD, powD, mulA, mulI, addD, absD, intD, max2D, min2D, max3D, min3D, isND, notND, hbx]) (by omega)
      have c2 := lc_int (v := 10) (t := tTrue) (c := d3 leD ltD (oPl 14) (oPl 10) (oV (d2 addD (oPl 14) (oV (dCall F_latest_ring (aCons (oPl 7) (aCons (oPl 6) aNil))))))) (fun t => true) (fun t => .bl (decide (b ≤ t) && decide (t < b + lr e m s))) (by simp) (hn b c) hd (fun x hx => rfl)
        (fun x hx _ => by
          generalize tI L = TL
          generalize tI (rings e m a L) = RQ
          by_cases hbx : b ≤ x <;> simp [cfOf, startE, fin_, outsOf, retag, findTag, dRet, dSeq, dEnd, dNever, dIte, dIf, dDrop, dFld, dSet, toB, dC, dName, dBl, dNot, dAnd, dOr, tAndD, tOrD, tNotD, dTru, dBoolC, boolD, dIsi, dIsi2, dIsC, tyN, isN, d2, d3, oV, oPl, aNil, aCons, aStar, seqOf, argB, argsB, ownPl, nodupB, wb, wb1, dCall, dMeth, oMake, oMake0, dSetFld, res, resAll, bV_val, bV_own, tD_lst, tD_ins, vals, dL, dLV, dTup, dLst, oLst, sz, ofO, leD, ltD, gtD, geD, i0D, iD, truD, isSq, lenD, dFz, R.bind, dAsg, gTp, gsCons, gsNil, gNm, dPar, setAll, dAug, dSetIx, isOwn, dApp, dFor, iVals, iRes, iSeq, dSl, pNo, pSome, cutD, dNeg, fdivD, modD, powD, mulA, mulI, addD, absD, intD, max2D, min2D, max3D, min3D, isND, notND, hbx, hlr]) (by omega)
      rw [hff] at c1 c2
      have k1 := any_of (fun t => decide (b ≤ t) && decide (t < c)) c1
      have k2 := any_of (fun t => decide (b ≤ t) && decide (t < b + lr e m s)) c2
      have g0 : dBl (d2 geD (oV (d2 (i0D fun i j => .int (i - j)) (oPl 15) (oPl 14))) (oV (dCall F_latest_ring (aCons (oPl 7) (aCons (oPl 6) aNil))))) [x0, x1, x2, x3, x4, some (iv a), some (iv s), some (.val (LK e m a)), some (.val (tI L)), some (.val (tI (rings e m a L))), x10, x11, x12, x13, some (iv b), some (iv c), x16, x17, x18, x19, x20, x21, x22, x23] = .ok ([x0, x1, x2, x3, x4, some (iv a), some (iv s), some (.val (LK e m a)), some (.val (tI L)), some (.val (tI (rings e m a L))), x10, x11, x12, x13, some (iv b), some (iv c), x16, x17, x18, x19, x20, x21, x22, x23], decide (lr e m s ≤ c - b)) := by
        generalize tI L = TL
        generalize tI (rings e m a L) = RQ
        simp [cfOf, startE, fin_, outsOf, retag, findTag, dRet, dSeq, dEnd, dNever, dIte, dIf, dDrop, dFld, dSet, toB, dC, dName, dBl, dNot, dAnd, dOr, tAndD, tOrD, tNotD, dTru, dBoolC, boolD, dIsi, dIsi2, dIsC, tyN, isN, d2, d3, oV, oPl, aNil, aCons, aStar, seqOf, argB, argsB, ownPl, nodupB, wb, wb1, dCall, dMeth, oMake, oMake0, dSetFld, res, resAll, bV_val, bV_own, tD_lst, tD_ins, vals, dL, dLV, dTup, dLst, oLst, sz, ofO, leD, ltD, gtD, geD, i0D, iD, truD, isSq, lenD, dFz, R.bind, dAsg, gTp, gsCons, gsNil, gNm, dPar, setAll, dAug, dSetIx, isOwn, dApp, dFor, iVals, iRes, iSeq, dSl, pNo, pSome, cutD, dNeg, fdivD, modD, powD, mulA, mulI, addD, absD, intD, max2D, min2D, max3D, min3D, isND, notND, hlr]
      have g1 : dBl (d2 gtD (oV (d2 (i0D fun i j => .int (i - j)) (oPl 15) (oPl 14))) (oV (dCall F_latest_ring (aCons (oPl 7) (aCons (oPl 6) aNil))))) [x0, x1, x2, x3, x4, some (iv a), some (iv s), some (.val (LK e m a)), some (.val (tI L)), some (.val (tI (rings e m a L))), x10, x11, x12, x13, some (iv b), some (iv c), x16, x17, x18, x19, x20, x21, x22, x23] = .ok ([x0, x1, x2, x3, x4, some (iv a), some (iv s), some (.val (LK e m a)), some (.val (tI L)), some (.val (tI (rings e m a L))), x10, x11, x12, x13, some (iv b), some (iv c), x16, x17, x18, x19, x20, x21, x22, x23], decide (lr e m s < c - b)) := by
        generalize tI L = TL
        generalize tI (rings e m a L) = RQ
        simp [cfOf, startE, fin_, outsOf, retag, findTag, dRet, dSeq, dEnd, dNever, dIte, dIf, dDrop, dFld, dSet, toB, dC, dName, dBl, dNot, dAnd, dOr, tAndD, tOrD, tNotD, dTru, dBoolC, boolD, dIsi, dIsi2, dIsC, tyN, isN, d2, d3, oV, oPl, aNil, aCons, aStar, seqOf, argB, argsB, ownPl, nodupB, wb, wb1, dCall, dMeth, oMake, oMake0, dSetFld, res, resAll, bV_val, bV_own, tD_lst, tD_ins, vals, dL, dLV, dTup, dLst, oLst, sz, ofO, leD, ltD, gtD, geD, i0D, iD, truD, isSq, lenD, dFz, R.bind, dAsg, gTp, gsCons, gsNil, gNm, dPar, setAll, dAug, dSetIx, isOwn, dApp, dFor, iVals, iRes, iSeq, dSl, pNo, pSome, cutD, dNeg, fdivD, modD, powD, mulA, mulI, addD, absD, intD, max2D, min2D, max3D, min3D, isND, notND, hlr]
      have g2 : dBl (d2 gtD (oPl 6) (oV (dC (.int 0)))) [x0, x1, x2, x3, x4, some (iv a), some (iv s), some (.val (LK e m a)), some (.val (tI L)), some (.val (tI (rings e m a L))), x10, x11, x12, x13, some (iv b), some (iv c), x16, x17, x18, x19, x20, x21, x22, x23] = .ok ([x0, x1, x2, x3, x4, some (iv a), some (iv s), some (.val (LK e m a)), some (.val (tI L)), some (.val (tI (rings e m a L))), x10, x11, x12, x13, some (iv b), some (iv c), x16, x17, x18, x19, x20, x21, x22, x23], decide (0 < s)) := by
        generalize tI L = TL
        generalize tI (rings e m a L) = RQ
        simp [cfOf, startE, fin_, outsOf, retag, findTag, dRet, dSeq, dEnd, dNever, dIte, dIf, dDrop, dFld, dSet, toB, dC, dName, dBl, dNot, dAnd, dOr, tAndD, tOrD, tNotD, dTru, dBoolC, boolD, dIsi, dIsi2, dIsC, tyN, isN, d2, d3, oV, oPl, aNil, aCons, aStar, seqOf, argB, argsB, ownPl, nodupB, wb, wb1, dCall, dMeth, oMake, oMake0, dSetFld, res, resAll, bV_val, bV_own, tD_lst, tD_ins, vals, dL, dLV, dTup, dLst, oLst, sz, ofO, leD, ltD, gtD, geD, i0D, iD, truD, isSq, lenD, dFz, R.bind, dAsg, gTp, gsCons, gsNil, gNm, dPar, setAll, dAug, dSetIx, isOwn, dApp, dFor, iVals, iRes, iSeq, dSl, pNo, pSome, cutD, dNeg, fdivD, modD, powD, mulA, mulI, addD, absD, intD, max2D, min2D, max3D, min3D, isND, notND]
      refine ite_no (or_no (and_nn _ _ g0 (not_b k1) ?_) (and_no _ g1 (fun q1 => and_nn _ _ g2 (not_b k2) ?_)))
      · intro g
        simp only [decide_eq_true_iff] at g
        suffices ∃ t ∈ rings e m a L, b ≤ t ∧ t < c by
          obtain ⟨t, t1, t2, t3⟩ := this
          rw [Bool.not_eq_false', List.any_eq_true]
          exact ⟨t, t1, by simp [t2, t3]⟩
        by_cases hs0 : 0 < s
        · have : lr e m s = e * m := if_pos hs0
          obtain ⟨t, t1, t2, t3, _⟩ := ring_long (e := e) (m := m) e1 m1 hin.1 (by omega) hot (by omega)
          exact ⟨t, t1, t2, t3⟩
        · have hs0 : s = 0 := by omega
          subst hs0
          have hl : lr e m 0 = if (m - 1) * e + 1 < e then e else (m - 1) * e + 1 := if_neg (by omega)
          have : e ≤ lr e m 0 ∧ (m - 1) * e + 1 ≤ lr e m 0 := by
            rw [hl]
            by_cases hq : (m - 1) * e + 1 < e
            · rw [if_pos hq]; omega
            · rw [if_neg hq]; omega
          exact ring_still e1 m1 hin.1 hin.2.1 (by omega) hN hot (by omega) (by omega)
      · intro g
        simp only [decide_eq_true_iff] at g q1
        have hl : lr e m s = e * m := if_pos g
        obtain ⟨t, t1, t2, t3, t4⟩ := ring_long (e := e) (m := m) e1 m1 hin.1 (by omega) hot (by omega)
        rw [Bool.not_eq_false', List.any_eq_true]
        exact ⟨t, t1, by rw [hl]; simp [t2, t4]⟩)
    [x0, x1, x2, x3, x4, some (iv a), some (iv s), some (.val (LK e m a)), some (.val (tI L)), some (.val (tI (rings e m a L))), x10, x11, x12, x13, x14, x15, x16, x17, x18, x19, x20, x21, x22, x23] ⟨x14, x15, ⟨w14, w15⟩, rfl⟩
  refine ⟨y14, y15, hw, ?_⟩
  rw [← hρ, ← hf]
  unfold S_law_10 dFor
  have hd : iSeq (dCall F_stretches_above (aCons (oPl 8) (aCons (oPl 5) aNil))) [x0, x1, x2, x3, x4, some (iv a), some (iv s), some (.val (LK e m a)), some (.val (tI L)), some (.val (tI (rings e m a L))), x10, x11, x12, x13, x14, x15, x16, x17, x18, x19, x20, x21, x22, x23] = .ok ([x0, x1, x2, x3, x4, some (iv a), some (iv s), some (.val (LK e m a)), some (.val (tI L)), some (.val (tI (rings e m a L))), x10, x11, x12, x13, x14, x15, x16, x17, x18, x19, x20, x21, x22, x23], F.map pr) := by
    generalize F.map pr = Q at hs
    generalize tI L = TL at hs
    generalize tI (rings e m a L) = RQ
    simp [cfOf, startE, fin_, outsOf, retag, findTag, dRet, dSeq, dEnd, dNever, dIte, dIf, dDrop, dFld, dSet, toB, dC, dName, dBl, dNot, dAnd, dOr, tAndD, tOrD, tNotD, dTru, dBoolC, boolD, dIsi, dIsi2, dIsC, tyN, isN, d2, d3, oV, oPl, aNil, aCons, aStar, seqOf, argB, argsB, ownPl, nodupB, wb, wb1, dCall, dMeth, oMake, oMake0, dSetFld, res, resAll, bV_val, bV_own, tD_lst, tD_ins, vals, dL, dLV, dTup, dLst, oLst, sz, ofO, leD, ltD, gtD, geD, i0D, iD, truD, isSq, lenD, dFz, R.bind, dAsg, gTp, gsCons, gsNil, gNm, dPar, setAll, dAug, dSetIx, isOwn, dApp, dFor, iVals, iRes, iSeq, dSl, pNo, pSome, cutD, dNeg, fdivD, modD, powD, mulA, mulI, addD, absD, intD, max2D, min2D, max3D, min3D, isND, notND, hs]
  rw [hd]
  rfl
end A
end
section
namespace A
open PySem Zd
set_option autoImplicit false
theorem st12 {x0 x1 x2 x3 x4 x5 x6 x7 x8 x9 x10 x11 x12 x13 x14 x15 x16 x17 x18 x19 x20 x21 x22 x23 : Option B} {e m a s : Int} (h : Okl e m a) (s0 : 0 ≤ s) (s3 : s ≤ 3) : ∃ y17 : Option B,
    S_law_12 [x0, x1, x2, x3, x4, x5, some (iv s), some (.val (LK e m a)), x8, x9, x10, x11, x12, x13, x14, x15, x16, x17, x18, x19, x20, x21, x22, x23] = .ok ([x0, x1, x2, x3, x4, x5, some (iv s), some (.val (LK e m a)), x8, x9, x10, x11, x12, x13, x14, x15, x16, y17, x18, x19, x20, x21, x22, x23], .nx) := by
  obtain ⟨ρ', hf, y17, hρ⟩ := fl_inv (g := gNm 17) (body := (dIte (tOrD (tAndD (dTru M_bool (oV (dCall F_judge_rings (aCons (oPl 7) (aCons (oPl 6) (aCons (oV (d2 addD (oPl 17) (oV (dC (.int 1))))) aNil)))))) (tNotD (dTru M_bool (oV (dCall F_judge_rings (aCons (oPl 7) (aCons (oPl 6) (aCons (oPl 17) aNil)))))))) (tAndD (dBl (d2 gtD (oPl 6) (oV (dC (.int 0))))) (tAndD (dTru M_bool (oV (dCall F_judge_rings (aCons (oPl 7) (aCons (oPl 6) (aCons (oPl 17) aNil)))))) (tNotD (dTru M_bool (oV (dCall F_judge_rings (aCons (oPl 7) (aCons (oV (d2 (i0D fun i j => .int (i - j)) (oPl 6) (oV (dC (.int 1))))) (aCons (oPl 17) aNil)))))))))) (dRet (dC (.bl false))) (dEnd .nx)))
    (fun ρ => ∃ y17 : Option B, ρ = [x0, x1, x2, x3, x4, x5, some (iv s), some (.val (LK e m a)), x8, x9, x10, x11, x12, x13, x14, x15, x16, y17, x18, x19, x20, x21, x22, x23]) (rngL 0 1 9) (fun d hd ρ hI => by
      obtain ⟨y17, rfl⟩ := hI
      unfold rngL at hd
      obtain ⟨i, hi, rfl⟩ := List.mem_map.mp hd
      have hi := List.mem_range.mp hi
      have ei : ∀ a b : Int, addD (.int a) (.int b) = some (.int (a + b)) := fun _ _ => rfl
      generalize hf : (0 : Int) + (i : Int) * 1 = f
      refine ⟨[x0, x1, x2, x3, x4, x5, some (iv s), some (.val (LK e m a)), x8, x9, x10, x11, x12, x13, x14, x15, x16, some (iv f), x18, x19, x20, x21, x22, x23], [x0, x1, x2, x3, x4, x5, some (iv s), some (.val (LK e m a)), x8, x9, x10, x11, x12, x13, x14, x15, x16, some (iv f), x18, x19, x20, x21, x22, x23], by simp [gNm], ?_, _, rfl⟩
      refine ite_no (or_no (and_nn (decide (f + 1 < lb e m a s)) (!decide (f < lb e m a s)) ?_ (not_b ?_) ?_) (and_no (decide (0 < s)) ?_ (fun g => and_nn (decide (f < lb e m a s)) (!decide (f < lb e m a (s - 1))) ?_ (not_b ?_) ?_)))
      · exact tru_c h s0 s3 (by omega) (by omega) (fun d hd => by simp [cfOf, startE, fin_, outsOf, retag, findTag, dRet, dSeq, dEnd, dNever, dIte, dIf, dDrop, dFld, dSet, toB, dC, dName, dBl, dNot, dAnd, dOr, tAndD, tOrD, tNotD, dTru, dBoolC, boolD, dIsi, dIsi2, dIsC, tyN, isN, d2, d3, oV, oPl, aNil, aCons, aStar, seqOf, argB, argsB, ownPl, nodupB, wb, wb1, dCall, dMeth, oMake, oMake0, dSetFld, res, resAll, bV_val, bV_own, tD_lst, tD_ins, vals, dL, dLV, dTup, dLst, oLst, sz, ofO, leD, ltD, gtD, geD, i0D, iD, truD, isSq, lenD, dFz, R.bind, dAsg, gTp, gsCons, gsNil, gNm, dPar, setAll, dAug, dSetIx, isOwn, dApp, dFor, iVals, iRes, iSeq, dSl, pNo, pSome, cutD, dNeg, fdivD, modD, mulA, mulI, absD, intD, max2D, min2D, max3D, min3D, isND, notND, ei, hd])
      · exact tru_c h s0 s3 (by omega) (by omega) (fun d hd => by simp [cfOf, startE, fin_, outsOf, retag, findTag, dRet, dSeq, dEnd, dNever, dIte, dIf, dDrop, dFld, dSet, toB, dC, dName, dBl, dNot, dAnd, dOr, tAndD, tOrD, tNotD, dTru, dBoolC, boolD, dIsi, dIsi2, dIsC, tyN, isN, d2, d3, oV, oPl, aNil, aCons, aStar, seqOf, argB, argsB, ownPl, nodupB, wb, wb1, dCall, dMeth, oMake, oMake0, dSetFld, res, resAll, bV_val, bV_own, tD_lst, tD_ins, vals, dL, dLV, dTup, dLst, oLst, sz, ofO, leD, ltD, gtD, geD, i0D, iD, truD, isSq, lenD, dFz, R.bind, dAsg, gTp, gsCons, gsNil, gNm, dPar, setAll, dAug, dSetIx, isOwn, dApp, dFor, iVals, iRes, iSeq, dSl, pNo, pSome, cutD, dNeg, fdivD, modD, mulA, mulI, absD, intD, max2D, min2D, max3D, min3D, isND, notND, ei, hd])
      · intro g; simp at g ⊢; omega
      · simp [cfOf, startE, fin_, outsOf, retag, findTag, dRet, dSeq, dEnd, dNever, dIte, dIf, dDrop, dFld, dSet, toB, dC, dName, dBl, dNot, dAnd, dOr, tAndD, tOrD, tNotD, dTru, dBoolC, boolD, dIsi, dIsi2, dIsC, tyN, isN, d2, d3, oV, oPl, aNil, aCons, aStar, seqOf, argB, argsB, ownPl, nodupB, wb, wb1, dCall, dMeth, oMake, oMake0, dSetFld, res, resAll, bV_val, bV_own, tD_lst, tD_ins, vals, dL, dLV, dTup, dLst, oLst, sz, ofO, leD, ltD, gtD, geD, i0D, iD, truD, isSq, lenD, dFz, R.bind, dAsg, gTp, gsCons, gsNil, gNm, dPar, setAll, dAug, dSetIx, isOwn, dApp, dFor, iVals, iRes, iSeq, dSl, pNo, pSome, cutD, dNeg, fdivD, modD, powD, mulA, mulI, addD, absD, intD, max2D, min2D, max3D, min3D, isND, notND]
      · exact tru_c h s0 s3 (by omega) (by omega) (fun d hd => by simp [cfOf, startE, fin_, outsOf, retag, findTag, dRet, dSeq, dEnd, dNever, dIte, dIf, dDrop, dFld, dSet, toB, dC, dName, dBl, dNot, dAnd, dOr, tAndD, tOrD, tNotD, dTru, dBoolC, boolD, dIsi, dIsi2, dIsC, tyN, isN, d2, d3, oV, oPl, aNil, aCons, aStar, seqOf, argB, argsB, ownPl, nodupB, wb, wb1, dCall, dMeth, oMake, oMake0, dSetFld, res, resAll, bV_val, bV_own, tD_lst, tD_ins, vals, dL, dLV, dTup, dLst, oLst, sz, ofO, leD, ltD, gtD, geD, i0D, iD, truD, isSq, lenD, dFz, R.bind, dAsg, gTp, gsCons, gsNil, gNm, dPar, setAll, dAug, dSetIx, isOwn, dApp, dFor, iVals, iRes, iSeq, dSl, pNo, pSome, cutD, dNeg, fdivD, modD, mulA, mulI, absD, intD, max2D, min2D, max3D, min3D, isND, notND, ei, hd])
      · exact tru_c h (by simp at g; omega) (by omega) (by omega) (by omega) (fun d hd => by simp [cfOf, startE, fin_, outsOf, retag, findTag, dRet, dSeq, dEnd, dNever, dIte, dIf, dDrop, dFld, dSet, toB, dC, dName, dBl, dNot, dAnd, dOr, tAndD, tOrD, tNotD, dTru, dBoolC, boolD, dIsi, dIsi2, dIsC, tyN, isN, d2, d3, oV, oPl, aNil, aCons, aStar, seqOf, argB, argsB, ownPl, nodupB, wb, wb1, dCall, dMeth, oMake, oMake0, dSetFld, res, resAll, bV_val, bV_own, tD_lst, tD_ins, vals, dL, dLV, dTup, dLst, oLst, sz, ofO, leD, ltD, gtD, geD, i0D, iD, truD, isSq, lenD, dFz, R.bind, dAsg, gTp, gsCons, gsNil, gNm, dPar, setAll, dAug, dSetIx, isOwn, dApp, dFor, iVals, iRes, iSeq, dSl, pNo, pSome, cutD, dNeg, fdivD, modD, mulA, mulI, absD, intD, max2D, min2D, max3D, min3D, isND, notND, ei, hd])
      · intro g; have := lb_step (m := m) (a := a) (s := s) h.e1; simp at g ⊢; omega)
    [x0, x1, x2, x3, x4, x5, some (iv s), some (.val (LK e m a)), x8, x9, x10, x11, x12, x13, x14, x15, x16, x17, x18, x19, x20, x21, x22, x23] ⟨x17, rfl⟩
  refine ⟨y17, ?_⟩
  rw [← hρ, ← hf]
  have hr : rng1 [.int 9] = some (rngL 0 1 9) := rfl
  unfold S_law_12 dFor
  generalize rngL 0 1 9 = RR at hr
  simp [iRes, aCons, aNil, oV, dC, R.bind, resAll, res, hr]
end A
end
section
namespace A
open PySem Zd
set_option autoImplicit false
theorem lb_nine {e m a s : Int} (h : Okl e m a) (s0 : 0 ≤ s) : lb e m a s ≤ 9 := by
  have h8 := h.a8
  have : 0 ≤ (if 1 < m then s * (e / 2) else 0) := by
    by_cases hm : 1 < m
    · rw [if_pos hm]; exact Int.mul_nonneg s0 (by have := h.e1; omega)
    · rw [if_neg hm]; omega
  unfold lb
  generalize (if 1 < m then s * (e / 2) else 0) = x at this
  by_cases h1 : 0 < a + 1 - x <;> simp [h1] <;> omega
theorem st16 {x0 x1 x2 x3 x4 x5 x6 x7 x8 x9 x10 x11 x12 x13 x14 x15 x16 x17 x18 x19 x20 x21 x22 x23 : Option B} {e m a s : Int} (h : Okl e m a) (s0 : 0 ≤ s) (s3 : s ≤ 3) :
    S_law_16 [x0, x1, x2, x3, x4, x5, some (iv s), some (.val (LK e m a)), x8, x9, x10, x11, x12, x13, x14, x15, x16, x17, x18, x19, x20, x21, x22, x23] = .ok ([x0, x1, x2, x3, x4, x5, some (iv s), some (.val (LK e m a)), x8, x9, x10, x11, x12, x13, x14, x15, x16, x17, x18, x19, some (.val (.ins 5 [tI (toldI e m a s)])), x21, x22, x23], .nx) := by
  have hj := f_judge_lying (f := 9) h s0 s3 (by omega) (by omega) (by have := lb_nine h s0; omega)
  generalize tI (toldI e m a s) = TQ at hj
  unfold S_law_16
  simp [cfOf, startE, fin_, outsOf, retag, findTag, dRet, dSeq, dEnd, dNever, dIte, dIf, dDrop, dFld, dSet, toB, dC, dName, dBl, dNot, dAnd, dOr, tAndD, tOrD, tNotD, dTru, dBoolC, boolD, dIsi, dIsi2, dIsC, tyN, isN, d2, d3, oV, oPl, aNil, aCons, aStar, seqOf, argB, argsB, ownPl, nodupB, wb, wb1, dCall, dMeth, oMake, oMake0, dSetFld, res, resAll, bV_val, bV_own, tD_lst, tD_ins, vals, dL, dLV, dTup, dLst, oLst, sz, ofO, leD, ltD, gtD, geD, i0D, iD, truD, isSq, lenD, dFz, R.bind, dAsg, gTp, gsCons, gsNil, gNm, dPar, setAll, dAug, dSetIx, isOwn, dApp, dFor, iVals, iRes, iSeq, dSl, pNo, pSome, cutD, dNeg, fdivD, modD, powD, mulA, mulI, addD, absD, intD, max2D, min2D, max3D, min3D, isND, notND, hj]
end A
end
section
namespace A
open PySem Zd
set_option autoImplicit false
theorem lb_wide {t m a s : Int} (h1 : 1 ≤ t) (a0 : 0 ≤ a) (s0 : 0 ≤ s) : a < lb t m a s ↔ (m ≤ 1 ∨ s = 0 ∨ t = 1) := by
  unfold lb
  by_cases hm : 1 < m
  · rw [if_pos hm]
    by_cases hs : s = 0
    · subst hs; simp; omega
    · by_cases ht : t = 1
      · subst ht; simp; omega
      · have : 1 * 1 ≤ s * (t / 2) := Int.mul_le_mul (by omega) (by omega) (by omega) (by omega)
        generalize s * (t / 2) = x at this
        by_cases hp : 0 < a + 1 - x
        · rw [if_pos hp]; omega
        · rw [if_neg hp]; omega
  · rw [if_neg hm]
    rw [if_pos (by omega)]
    omega
end A
end
section
namespace A
open PySem Zd
set_option autoImplicit false
theorem f_widest {m a s : Int} (m1 : 1 ≤ m) (m4 : m ≤ 4) (a0 : 0 ≤ a) (a8 : a ≤ 8) (s0 : 0 ≤ s) (s3 : s ≤ 3) :
    F_widest_looks [iv m, iv a, iv s, iv a] = .ok [none, none, none, none] (.int (if m ≤ 1 ∨ s = 0 then 6 else 1)) := by
  have hc := lc_int (v := 4) (ρ := [some (iv m), some (iv a), some (iv s), some (iv a), none, none]) (di := iRes rng2 (aCons (oV (dC (.int 1))) (aCons (oV (dC (.int 7))) aNil))) (t := dTru M_bool (oV (dCall F_judge_rings (aCons (oV (dFz (oMake 3 F_Looksdd_initdd (aCons (oPl 4) (aCons (oPl 0) (aCons (oPl 1) aNil)))))) (aCons (oPl 2) (aCons (oPl 3) aNil)))))) (c := dName 4) (Rg := [1, 2, 3, 4, 5, 6])
    (fun t => decide (a < lb t m a s)) (fun t => .int t) (by simp) rfl rfl
    (fun t ht => by
      have hb : 1 ≤ t ∧ t ≤ 6 := by simp at ht; omega
      have h : Okl t m a := ⟨hb.1, hb.2, m1, m4, a0, a8⟩
      have hk := f_mk h 0
      exact tru_c h s0 s3 a0 (by omega) (fun d hd => by simp [cfOf, startE, fin_, outsOf, retag, findTag, dRet, dSeq, dEnd, dNever, dIte, dIf, dDrop, dFld, dSet, toB, dC, dName, dBl, dNot, dAnd, dOr, tAndD, tOrD, tNotD, dTru, dBoolC, boolD, dIsi, dIsi2, dIsC, tyN, isN, d2, d3, oV, oPl, aNil, aCons, aStar, seqOf, argB, argsB, ownPl, nodupB, wb, wb1, dCall, dMeth, oMake, oMake0, dSetFld, res, resAll, bV_val, bV_own, tD_lst, tD_ins, vals, dL, dLV, dTup, dLst, oLst, sz, ofO, leD, ltD, gtD, geD, i0D, iD, truD, isSq, lenD, dFz, R.bind, dAsg, gTp, gsCons, gsNil, gNm, dPar, setAll, dAug, dSetIx, isOwn, dApp, dFor, iVals, iRes, iSeq, dSl, pNo, pSome, cutD, dNeg, fdivD, modD, powD, mulA, mulI, addD, absD, intD, max2D, min2D, max3D, min3D, isND, notND, hk, hd]))
    (fun t ht _ => by simp [cfOf, startE, fin_, outsOf, retag, findTag, dRet, dSeq, dEnd, dNever, dIte, dIf, dDrop, dFld, dSet, toB, dC, dName, dBl, dNot, dAnd, dOr, tAndD, tOrD, tNotD, dTru, dBoolC, boolD, dIsi, dIsi2, dIsC, tyN, isN, d2, d3, oV, oPl, aNil, aCons, aStar, seqOf, argB, argsB, ownPl, nodupB, wb, wb1, dCall, dMeth, oMake, oMake0, dSetFld, res, resAll, bV_val, bV_own, tD_lst, tD_ins, vals, dL, dLV, dTup, dLst, oLst, sz, ofO, leD, ltD, gtD, geD, i0D, iD, truD, isSq, lenD, dFz, R.bind, dAsg, gTp, gsCons, gsNil, gNm, dPar, setAll, dAug, dSetIx, isOwn, dApp, dFor, iVals, iRes, iSeq, dSl, pNo, pSome, cutD, dNeg, fdivD, modD, powD, mulA, mulI, addD, absD, intD, max2D, min2D, max3D, min3D, isND, notND]) (by simp)
  by_cases hw : m ≤ 1 ∨ s = 0
  · have hf : ([1, 2, 3, 4, 5, 6] : List Int).filter (fun t => decide (a < lb t m a s)) = [1, 2, 3, 4, 5, 6] := by
      rw [List.filter_eq_self]
      intro t ht
      have hb : 1 ≤ t := by simp at ht; omega
      rw [decide_eq_true_iff, lb_wide hb a0 s0]
      omega
    rw [hf] at hc
    have hn : neD (.lst [.int 1, .int 2, .int 3, .int 4, .int 5, .int 6]) (.lst []) = some (.bl true) := rfl
    have hx : maxD [.lst [.int 1, .int 2, .int 3, .int 4, .int 5, .int 6]] = some (.int 6) := rfl
    simp only [List.map_cons, List.map_nil] at hc
    rw [if_pos hw]
    simp [cfOf, startE, fin_, outsOf, retag, findTag, dRet, dSeq, dEnd, dNever, dIte, dIf, dDrop, dFld, dSet, toB, dC, dName, dBl, dNot, dAnd, dOr, tAndD, tOrD, tNotD, dTru, dBoolC, boolD, dIsi, dIsi2, dIsC, tyN, isN, d2, d3, oV, oPl, aNil, aCons, aStar, seqOf, argB, argsB, ownPl, nodupB, wb, wb1, dCall, dMeth, oMake, oMake0, dSetFld, res, resAll, bV_val, bV_own, tD_lst, tD_ins, vals, dL, dLV, dTup, dLst, oLst, sz, ofO, leD, ltD, gtD, geD, i0D, iD, truD, isSq, lenD, dFz, R.bind, dAsg, gTp, gsCons, gsNil, gNm, dPar, setAll, dAug, dSetIx, isOwn, dApp, dFor, iVals, iRes, iSeq, dSl, pNo, pSome, cutD, dNeg, fdivD, modD, powD, mulA, mulI, addD, absD, intD, max2D, min2D, max3D, min3D, isND, notND, F_widest_looks, D_widest_looks, hc, hn, hx]
  · have q : ∀ t : Int, 1 ≤ t → (a < lb t m a s ↔ t = 1) := fun t ht => by rw [lb_wide ht a0 s0]; omega
    have hf : ([1, 2, 3, 4, 5, 6] : List Int).filter (fun t => decide (a < lb t m a s)) = [1] := by
      simp [List.filter_cons, q 1 (by omega), q 2 (by omega), q 3 (by omega), q 4 (by omega), q 5 (by omega), q 6 (by omega)]
    rw [hf] at hc
    have hn : neD (.lst [.int 1]) (.lst []) = some (.bl true) := rfl
    have hx : maxD [.lst [.int 1]] = some (.int 1) := rfl
    simp only [List.map_cons, List.map_nil] at hc
    rw [if_neg hw]
    simp [cfOf, startE, fin_, outsOf, retag, findTag, dRet, dSeq, dEnd, dNever, dIte, dIf, dDrop, dFld, dSet, toB, dC, dName, dBl, dNot, dAnd, dOr, tAndD, tOrD, tNotD, dTru, dBoolC, boolD, dIsi, dIsi2, dIsC, tyN, isN, d2, d3, oV, oPl, aNil, aCons, aStar, seqOf, argB, argsB, ownPl, nodupB, wb, wb1, dCall, dMeth, oMake, oMake0, dSetFld, res, resAll, bV_val, bV_own, tD_lst, tD_ins, vals, dL, dLV, dTup, dLst, oLst, sz, ofO, leD, ltD, gtD, geD, i0D, iD, truD, isSq, lenD, dFz, R.bind, dAsg, gTp, gsCons, gsNil, gNm, dPar, setAll, dAug, dSetIx, isOwn, dApp, dFor, iVals, iRes, iSeq, dSl, pNo, pSome, cutD, dNeg, fdivD, modD, powD, mulA, mulI, addD, absD, intD, max2D, min2D, max3D, min3D, isND, notND, F_widest_looks, D_widest_looks, hc, hn, hx]
end A
end
section
namespace A
open PySem Zd
set_option autoImplicit false
theorem st14 {x0 x1 x2 x3 x4 x5 x6 x7 x8 x9 x10 x11 x12 x13 x14 x15 x16 x17 x18 x19 x20 x21 x22 x23 : Option B} {m a s : Int} (m1 : 1 ≤ m) (m4 : m ≤ 4) (a0 : 0 ≤ a) (a8 : a ≤ 8) (s0 : 0 ≤ s) (s3 : s ≤ 3) :
    S_law_14 [x0, x1, x2, x3, some (iv m), some (iv a), some (iv s), x7, x8, x9, x10, x11, x12, x13, x14, x15, x16, x17, x18, x19, x20, x21, x22, x23] = .ok ([x0, x1, x2, x3, some (iv m), some (iv a), some (iv s), x7, x8, x9, x10, x11, x12, x13, x14, x15, x16, x17, x18, some (iv (if m ≤ 1 ∨ s = 0 then 6 else 1)), x20, x21, x22, x23], .nx) := by
  have hw := f_widest m1 m4 a0 a8 s0 s3
  generalize (if m ≤ 1 ∨ s = 0 then (6 : Int) else 1) = w at hw
  unfold S_law_14
  simp [cfOf, startE, fin_, outsOf, retag, findTag, dRet, dSeq, dEnd, dNever, dIte, dIf, dDrop, dFld, dSet, toB, dC, dName, dBl, dNot, dAnd, dOr, tAndD, tOrD, tNotD, dTru, dBoolC, boolD, dIsi, dIsi2, dIsC, tyN, isN, d2, d3, oV, oPl, aNil, aCons, aStar, seqOf, argB, argsB, ownPl, nodupB, wb, wb1, dCall, dMeth, oMake, oMake0, dSetFld, res, resAll, bV_val, bV_own, tD_lst, tD_ins, vals, dL, dLV, dTup, dLst, oLst, sz, ofO, leD, ltD, gtD, geD, i0D, iD, truD, isSq, lenD, dFz, R.bind, dAsg, gTp, gsCons, gsNil, gNm, dPar, setAll, dAug, dSetIx, isOwn, dApp, dFor, iVals, iRes, iSeq, dSl, pNo, pSome, cutD, dNeg, fdivD, modD, powD, mulA, mulI, addD, absD, intD, max2D, min2D, max3D, min3D, isND, notND, hw]
end A
end
section
namespace A
open PySem Zd
set_option autoImplicit false
theorem lr_b {e m a s : Int} (h : Okl e m a) (s0 : 0 ≤ s) : 1 ≤ lr e m s ∧ e ≤ lr e m s ∧ lr e m s ≤ 24 := by
  have e1 := h.e1; have e6 := h.e6; have m1 := h.m1; have m4 := h.m4
  have hp := span_b h
  have hme : (m - 1) * e + e = e * m := by rw [Int.sub_mul, Int.mul_comm m e]; omega
  unfold lr
  by_cases hs : 0 < s
  · rw [if_pos hs]; omega
  · rw [if_neg hs]
    by_cases hq : (m - 1) * e + 1 < e
    · rw [if_pos hq]; omega
    · rw [if_neg hq]; omega
theorem vals_map : ∀ Q : List D, vals (Q.map Op.v) = some Q
  | [] => rfl
  | x :: Q => by simp [vals, vals_map Q]
/-- whether misses are judged Rung -/
theorem f_judge_misses {e m a s f : Int} (h : Okl e m a) (s0 : 0 ≤ s) (s3 : s ≤ 3) (f0 : 1 ≤ f) (f9 : f ≤ 40) : ∃ c : Nat, ∃ xs : List D, F_judge_misses [.val (LK e m a), iv s, iv f] = .ok [none, none, none] (.ins c xs) ∧ ((lr e m s ≤ f ∧ c = 6) ∨ (¬ lr e m s ≤ f ∧ c = 7)) := by
  have hc := f_check_stretch [.int e, .int m, .int a] s0 s3 f0 f9
  have hlr := f_latest_ring (e := e) (m := m) (a := a) h.e1 h.e6 h.m1 h.m4 s0 s3
  by_cases hf : lr e m s ≤ f
  · exact ⟨6, [], by simp [cfOf, startE, fin_, outsOf, retag, findTag, dRet, dSeq, dEnd, dNever, dIte, dIf, dDrop, dFld, dSet, toB, dC, dName, dBl, dNot, dAnd, dOr, tAndD, tOrD, tNotD, dTru, dBoolC, boolD, dIsi, dIsi2, dIsC, tyN, isN, d2, d3, oV, oPl, aNil, aCons, aStar, seqOf, argB, argsB, ownPl, nodupB, wb, wb1, dCall, dMeth, oMake, oMake0, dSetFld, res, resAll, bV_val, bV_own, tD_lst, tD_ins, vals, dL, dLV, dTup, dLst, oLst, sz, ofO, leD, ltD, gtD, geD, i0D, iD, truD, isSq, lenD, dFz, R.bind, dAsg, gTp, gsCons, gsNil, gNm, dPar, setAll, dAug, dSetIx, isOwn, dApp, dFor, iVals, iRes, iSeq, dSl, pNo, pSome, cutD, dNeg, fdivD, modD, powD, mulA, mulI, addD, absD, intD, max2D, min2D, max3D, min3D, isND, notND, F_judge_misses, D_judge_misses, hc, hlr, hf], .inl ⟨hf, rfl⟩⟩
  · by_cases hs : s = 0
    · subst hs
      have hz := mul_zeros (k := if m = 1 then e else f) (by by_cases hm : m = 1 <;> simp [hm] <;> have := h.e1 <;> omega) (by by_cases hm : m = 1 <;> simp [hm] <;> have := h.e6 <;> omega) (a + 1)
      have hk : ∀ ds : List D, F_kept_row [.val (.tup ds)] = .ok [none] (.tup ds) := f_kept_row
      refine ⟨7, [tI (List.replicate (if m = 1 then e else f).toNat (a + 1))], ?_, .inr ⟨hf, rfl⟩⟩
      have hq1 := eq_int
      by_cases hm : m = 1
      · subst hm
        simp only [if_pos] at hz ⊢
        generalize List.replicate e.toNat (a + 1) = Q at hz
        simp [cfOf, startE, fin_, outsOf, retag, findTag, dRet, dSeq, dEnd, dNever, dIte, dIf, dDrop, dFld, dSet, toB, dC, dName, dBl, dNot, dAnd, dOr, tAndD, tOrD, tNotD, dTru, dBoolC, boolD, dIsi, dIsi2, dIsC, tyN, isN, d2, d3, oV, oPl, aNil, aCons, aStar, seqOf, argB, argsB, ownPl, nodupB, wb, wb1, dCall, dMeth, oMake, oMake0, dSetFld, res, resAll, bV_val, bV_own, tD_lst, tD_ins, vals, dL, dLV, dTup, dLst, oLst, sz, ofO, leD, ltD, gtD, geD, i0D, iD, truD, isSq, lenD, dFz, R.bind, dAsg, gTp, gsCons, gsNil, gNm, dPar, setAll, dAug, dSetIx, isOwn, dApp, dFor, iVals, iRes, iSeq, dSl, pNo, pSome, cutD, dNeg, fdivD, modD, powD, mulI, absD, intD, max2D, min2D, max3D, min3D, isND, notND, F_judge_misses, D_judge_misses, hc, hlr, hf, hq1, fp_many, fp_every, fp_above, addD, hz, F_Misseddd_initdd, D_Misseddd_initdd, hk, fp_lengths]
      · simp only [if_neg hm] at hz ⊢
        generalize List.replicate f.toNat (a + 1) = Q at hz
        simp [cfOf, startE, fin_, outsOf, retag, findTag, dRet, dSeq, dEnd, dNever, dIte, dIf, dDrop, dFld, dSet, toB, dC, dName, dBl, dNot, dAnd, dOr, tAndD, tOrD, tNotD, dTru, dBoolC, boolD, dIsi, dIsi2, dIsC, tyN, isN, d2, d3, oV, oPl, aNil, aCons, aStar, seqOf, argB, argsB, ownPl, nodupB, wb, wb1, dCall, dMeth, oMake, oMake0, dSetFld, res, resAll, bV_val, bV_own, tD_lst, tD_ins, vals, dL, dLV, dTup, dLst, oLst, sz, ofO, leD, ltD, gtD, geD, i0D, iD, truD, isSq, lenD, dFz, R.bind, dAsg, gTp, gsCons, gsNil, gNm, dPar, setAll, dAug, dSetIx, isOwn, dApp, dFor, iVals, iRes, iSeq, dSl, pNo, pSome, cutD, dNeg, fdivD, modD, powD, mulI, absD, intD, max2D, min2D, max3D, min3D, isND, notND, F_judge_misses, D_judge_misses, hc, hlr, hf, hq1, hm, fp_many, fp_every, fp_above, addD, hz, F_Misseddd_initdd, D_Misseddd_initdd, hk, fp_lengths]
    · have hq1 := eq_int
      have hk : ∀ ds : List D, F_kept_row [.val (.tup ds)] = .ok [none] (.tup ds) := f_kept_row
      have hr := rng1 [.int f]
      have hc2 := lc_int (v := 4) (ρ := [some (.val (LK e m a)), some (iv s), some (iv f), none, none]) (di := iRes rng1 (aCons (oPl 2) aNil)) (t := tTrue) (c := d2 addD (oV (dFld fp_above (oPl 0))) (oV (dC (.int 1)))) (Rg := (List.range f.toNat).map fun (i : Nat) => (i : Int)) (fun _ => true) (fun t => .int (a + 1)) (by simp) rfl
        (by
          have hr : rng1 [.int f] = some (((List.range f.toNat).map fun (i : Nat) => (i : Int)).map D.int) := by
            show (if _ then _ else _) = _
            rw [if_pos (near_ok (by omega) (by omega))]
            unfold rngL
            rw [List.map_map]
            congr 1
            apply List.map_congr_left
            intro i _
            simp
          generalize (((List.range f.toNat).map fun (i : Nat) => (i : Int)).map D.int) = RR at hr
          simp [cfOf, startE, fin_, outsOf, retag, findTag, dRet, dSeq, dEnd, dNever, dIte, dIf, dDrop, dFld, dSet, toB, dC, dName, dBl, dNot, dAnd, dOr, tAndD, tOrD, tNotD, dTru, dBoolC, boolD, dIsi, dIsi2, dIsC, tyN, isN, d2, d3, oV, oPl, aNil, aCons, aStar, seqOf, argB, argsB, ownPl, nodupB, wb, wb1, dCall, dMeth, oMake, oMake0, dSetFld, res, resAll, bV_val, bV_own, tD_lst, tD_ins, vals, dL, dLV, dTup, dLst, oLst, sz, ofO, leD, ltD, gtD, geD, i0D, iD, truD, isSq, lenD, dFz, R.bind, dAsg, gTp, gsCons, gsNil, gNm, dPar, setAll, dAug, dSetIx, isOwn, dApp, dFor, iVals, iRes, iSeq, dSl, pNo, pSome, cutD, dNeg, fdivD, modD, powD, mulA, mulI, addD, absD, intD, max2D, min2D, max3D, min3D, isND, notND, hr])
        (fun x hx => rfl) (fun x hx _ => by simp [cfOf, startE, fin_, outsOf, retag, findTag, dRet, dSeq, dEnd, dNever, dIte, dIf, dDrop, dFld, dSet, toB, dC, dName, dBl, dNot, dAnd, dOr, tAndD, tOrD, tNotD, dTru, dBoolC, boolD, dIsi, dIsi2, dIsC, tyN, isN, d2, d3, oV, oPl, aNil, aCons, aStar, seqOf, argB, argsB, ownPl, nodupB, wb, wb1, dCall, dMeth, oMake, oMake0, dSetFld, res, resAll, bV_val, bV_own, tD_lst, tD_ins, vals, dL, dLV, dTup, dLst, oLst, sz, ofO, leD, ltD, gtD, geD, i0D, iD, truD, isSq, lenD, dFz, R.bind, dAsg, gTp, gsCons, gsNil, gNm, dPar, setAll, dAug, dSetIx, isOwn, dApp, dFor, iVals, iRes, iSeq, dSl, pNo, pSome, cutD, dNeg, fdivD, modD, powD, mulA, mulI, addD, absD, intD, max2D, min2D, max3D, min3D, isND, notND, fp_above]) (by simp; omega)
      have hQ : ((((List.range f.toNat).map fun (i : Nat) => (i : Int)).filter fun _ => true).map fun t => D.int (a + 1)).length + 1 ≤ 1000000 := by
        have := List.length_filter_le (fun _ : Int => true) ((List.range f.toNat).map fun (i : Nat) => (i : Int))
        rw [List.length_map, List.length_range] at this
        rw [List.length_map]
        omega
      generalize ((((List.range f.toNat).map fun (i : Nat) => (i : Int)).filter fun _ => true).map fun t => D.int (a + 1)) = Q at hc2 hQ
      refine ⟨7, [.tup (.int a :: Q)], ?_, .inr ⟨hf, rfl⟩⟩
      simp [cfOf, startE, fin_, outsOf, retag, findTag, dRet, dSeq, dEnd, dNever, dIte, dIf, dDrop, dFld, dSet, toB, dC, dName, dBl, dNot, dAnd, dOr, tAndD, tOrD, tNotD, dTru, dBoolC, boolD, dIsi, dIsi2, dIsC, tyN, isN, d2, d3, oV, oPl, aNil, aCons, aStar, seqOf, argB, argsB, ownPl, nodupB, wb, wb1, dCall, dMeth, oMake, oMake0, dSetFld, res, resAll, bV_val, bV_own, tD_lst, tD_ins, vals, dL, dLV, dTup, dLst, oLst, sz, ofO, leD, ltD, gtD, geD, i0D, iD, truD, isSq, lenD, dFz, R.bind, dAsg, gTp, gsCons, gsNil, gNm, dPar, setAll, dAug, dSetIx, isOwn, dApp, dFor, iVals, iRes, iSeq, dSl, pNo, pSome, cutD, dNeg, fdivD, modD, powD, mulA, mulI, addD, absD, intD, max2D, min2D, max3D, min3D, isND, notND, F_judge_misses, D_judge_misses, hc, hlr, hf, hq1, hs, fp_many, fp_every, fp_above, hc2, vals_map, hQ, F_Misseddd_initdd, D_Misseddd_initdd, hk, fp_lengths]
theorem tru_m {c : DEn} {ρ : Zd.Env} {e m a s f : Int} (h : Okl e m a) (s0 : 0 ≤ s) (s3 : s ≤ 3) (f0 : 1 ≤ f) (f9 : f ≤ 40)
    (hc : ∀ d, F_judge_misses [.val (LK e m a), iv s, iv f] = .ok [none, none, none] d → c ρ = .ok (ρ, d)) : dTru M_bool (oV c) ρ = .ok (ρ, decide (lr e m s ≤ f)) := by
  obtain ⟨k, xs, h1, h2⟩ := f_judge_misses h s0 s3 f0 f9
  have h3 := hc _ h1
  rcases h2 with ⟨hf, rfl⟩ | ⟨hf, rfl⟩
  · simp [dTru, oV, h3, R.bind, res, truD, M_bool, F_Rungdd_booldd, D_Rungdd_booldd, hf, cfOf, startE, fin_, outsOf, retag, findTag, dRet, dSeq, dEnd, dNever, dIte, dIf, dDrop, dFld, dSet, toB, dC, dName, dBl, dNot, dAnd, dOr, tAndD, tOrD, tNotD, dTru, dBoolC, boolD, dIsi, dIsi2, dIsC, tyN, isN, d2, d3, oV, oPl, aNil, aCons, aStar, seqOf, argB, argsB, ownPl, nodupB, wb, wb1, dCall, dMeth, oMake, oMake0, dSetFld, res, resAll, bV_val, bV_own, tD_lst, tD_ins, vals, dL, dLV, dTup, dLst, oLst, sz, ofO, leD, ltD, gtD, geD, i0D, iD, truD, isSq, lenD, dFz, R.bind, dAsg, gTp, gsCons, gsNil, gNm, dPar, setAll, dAug, dSetIx, isOwn, dApp, dFor, iVals, iRes, iSeq, dSl, pNo, pSome, cutD, dNeg, fdivD, modD, powD, mulA, mulI, addD, absD, intD, max2D, min2D, max3D, min3D, isND, notND]
  · simp [dTru, oV, h3, R.bind, res, truD, M_bool, F_Misseddd_booldd, D_Misseddd_booldd, hf, cfOf, startE, fin_, outsOf, retag, findTag, dRet, dSeq, dEnd, dNever, dIte, dIf, dDrop, dFld, dSet, toB, dC, dName, dBl, dNot, dAnd, dOr, tAndD, tOrD, tNotD, dTru, dBoolC, boolD, dIsi, dIsi2, dIsC, tyN, isN, d2, d3, oV, oPl, aNil, aCons, aStar, seqOf, argB, argsB, ownPl, nodupB, wb, wb1, dCall, dMeth, oMake, oMake0, dSetFld, res, resAll, bV_val, bV_own, tD_lst, tD_ins, vals, dL, dLV, dTup, dLst, oLst, sz, ofO, leD, ltD, gtD, geD, i0D, iD, truD, isSq, lenD, dFz, R.bind, dAsg, gTp, gsCons, gsNil, gNm, dPar, setAll, dAug, dSetIx, isOwn, dApp, dFor, iVals, iRes, iSeq, dSl, pNo, pSome, cutD, dNeg, fdivD, modD, powD, mulA, mulI, addD, absD, intD, max2D, min2D, max3D, min3D, isND, notND]
theorem st13 {x0 x1 x2 x3 x4 x5 x6 x7 x8 x9 x10 x11 x12 x13 x14 x15 x16 x17 x18 x19 x20 x21 x22 x23 : Option B} {e m a s : Int} (h : Okl e m a) (s0 : 0 ≤ s) (s3 : s ≤ 3) : ∃ y18 : Option B,
    S_law_13 [x0, x1, x2, some (iv e), some (iv m), x5, some (iv s), some (.val (LK e m a)), x8, x9, x10, x11, x12, x13, x14, x15, x16, x17, x18, x19, x20, x21, x22, x23] = .ok ([x0, x1, x2, some (iv e), some (iv m), x5, some (iv s), some (.val (LK e m a)), x8, x9, x10, x11, x12, x13, x14, x15, x16, x17, y18, x19, x20, x21, x22, x23], .nx) := by
  have e1 := h.e1; have e6 := h.e6; have m1 := h.m1; have m4 := h.m4
  have hp := span_b h
  have hme : (m - 1) * e + e = e * m := by rw [Int.sub_mul, Int.mul_comm m e]; omega
  obtain ⟨ρ', hf, y18, hρ⟩ := fl_inv2 (g := gNm 18) (body := (dIte (tAndD (dTru M_bool (oV (dCall F_judge_misses (aCons (oPl 7) (aCons (oPl 6) (aCons (oPl 18) aNil)))))) (tNotD (dTru M_bool (oV (dCall F_judge_misses (aCons (oPl 7) (aCons (oPl 6) (aCons (oV (d2 addD (oPl 18) (oV (dC (.int 1))))) aNil)))))))) (dRet (dC (.bl false))) (dEnd .nx)))
    D.int (fun ρ => ∃ y18 : Option B, ρ = [x0, x1, x2, some (iv e), some (iv m), x5, some (iv s), some (.val (LK e m a)), x8, x9, x10, x11, x12, x13, x14, x15, x16, x17, y18, x19, x20, x21, x22, x23]) [1, e, e * m, 39] (fun f hf ρ hI => by
      obtain ⟨y18, rfl⟩ := hI
      have hb : 1 ≤ f ∧ f ≤ 39 := by
        simp at hf
        omega
      refine ⟨[x0, x1, x2, some (iv e), some (iv m), x5, some (iv s), some (.val (LK e m a)), x8, x9, x10, x11, x12, x13, x14, x15, x16, x17, some (iv f), x19, x20, x21, x22, x23], [x0, x1, x2, some (iv e), some (iv m), x5, some (iv s), some (.val (LK e m a)), x8, x9, x10, x11, x12, x13, x14, x15, x16, x17, some (iv f), x19, x20, x21, x22, x23], by simp [gNm], ?_, _, rfl⟩
      refine ite_no (and_nn (decide (lr e m s ≤ f)) (!decide (lr e m s ≤ f + 1)) ?_ (not_b ?_) ?_)
      · exact tru_m h s0 s3 (by omega) (by omega) (fun d hd => by simp [cfOf, startE, fin_, outsOf, retag, findTag, dRet, dSeq, dEnd, dNever, dIte, dIf, dDrop, dFld, dSet, toB, dC, dName, dBl, dNot, dAnd, dOr, tAndD, tOrD, tNotD, dTru, dBoolC, boolD, dIsi, dIsi2, dIsC, tyN, isN, d2, d3, oV, oPl, aNil, aCons, aStar, seqOf, argB, argsB, ownPl, nodupB, wb, wb1, dCall, dMeth, oMake, oMake0, dSetFld, res, resAll, bV_val, bV_own, tD_lst, tD_ins, vals, dL, dLV, dTup, dLst, oLst, sz, ofO, leD, ltD, gtD, geD, i0D, iD, truD, isSq, lenD, dFz, R.bind, dAsg, gTp, gsCons, gsNil, gNm, dPar, setAll, dAug, dSetIx, isOwn, dApp, dFor, iVals, iRes, iSeq, dSl, pNo, pSome, cutD, dNeg, fdivD, modD, mulA, mulI, absD, intD, max2D, min2D, max3D, min3D, isND, notND, hd])
      · exact tru_m h s0 s3 (by omega) (by omega) (fun d hd => by simp [cfOf, startE, fin_, outsOf, retag, findTag, dRet, dSeq, dEnd, dNever, dIte, dIf, dDrop, dFld, dSet, toB, dC, dName, dBl, dNot, dAnd, dOr, tAndD, tOrD, tNotD, dTru, dBoolC, boolD, dIsi, dIsi2, dIsC, tyN, isN, d2, d3, oV, oPl, aNil, aCons, aStar, seqOf, argB, argsB, ownPl, nodupB, wb, wb1, dCall, dMeth, oMake, oMake0, dSetFld, res, resAll, bV_val, bV_own, tD_lst, tD_ins, vals, dL, dLV, dTup, dLst, oLst, sz, ofO, leD, ltD, gtD, geD, i0D, iD, truD, isSq, lenD, dFz, R.bind, dAsg, gTp, gsCons, gsNil, gNm, dPar, setAll, dAug, dSetIx, isOwn, dApp, dFor, iVals, iRes, iSeq, dSl, pNo, pSome, cutD, dNeg, fdivD, modD, mulA, mulI, absD, intD, max2D, min2D, max3D, min3D, isND, notND, addD, hd])
      · intro g; simp at g ⊢; omega)
    [x0, x1, x2, some (iv e), some (iv m), x5, some (iv s), some (.val (LK e m a)), x8, x9, x10, x11, x12, x13, x14, x15, x16, x17, x18, x19, x20, x21, x22, x23] ⟨x18, rfl⟩
  refine ⟨y18, ?_⟩
  rw [← hρ, ← hf]
  have s64e : small64 e = true := s64 (by omega) (by omega)
  unfold S_law_13 dFor
  have hd : iSeq (dTup (aCons (oV (dC (.int 1))) (aCons (oV (dName 3)) (aCons (oV (d2 mulA (oPl 3) (oPl 4))) (aCons (oV (dC (.int 39))) aNil))))) [x0, x1, x2, some (iv e), some (iv m), x5, some (iv s), some (.val (LK e m a)), x8, x9, x10, x11, x12, x13, x14, x15, x16, x17, x18, x19, x20, x21, x22, x23] = .ok ([x0, x1, x2, some (iv e), some (iv m), x5, some (iv s), some (.val (LK e m a)), x8, x9, x10, x11, x12, x13, x14, x15, x16, x17, x18, x19, x20, x21, x22, x23], [1, e, e * m, 39].map D.int) := by
    simp [cfOf, startE, fin_, outsOf, retag, findTag, dRet, dSeq, dEnd, dNever, dIte, dIf, dDrop, dFld, dSet, toB, dC, dName, dBl, dNot, dAnd, dOr, tAndD, tOrD, tNotD, dTru, dBoolC, boolD, dIsi, dIsi2, dIsC, tyN, isN, d2, d3, oV, oPl, aNil, aCons, aStar, seqOf, argB, argsB, ownPl, nodupB, wb, wb1, dCall, dMeth, oMake, oMake0, dSetFld, res, resAll, bV_val, bV_own, tD_lst, tD_ins, vals, dL, dLV, dTup, dLst, oLst, sz, ofO, leD, ltD, gtD, geD, i0D, iD, truD, isSq, lenD, dFz, R.bind, dAsg, gTp, gsCons, gsNil, gNm, dPar, setAll, dAug, dSetIx, isOwn, dApp, dFor, iVals, iRes, iSeq, dSl, pNo, pSome, cutD, dNeg, fdivD, modD, powD, mulA, mulI, addD, absD, intD, max2D, min2D, max3D, min3D, isND, notND, s64e]
  rw [hd]
  rfl
end A
end
section
namespace A
open PySem Zd
set_option autoImplicit false
theorem st15 {x0 x1 x2 x3 x4 x5 x6 x7 x8 x9 x10 x11 x12 x13 x14 x15 x16 x17 x18 x19 x20 x21 x22 x23 : Option B} {m a s : Int} (m1 : 1 ≤ m) (m4 : m ≤ 4) (a0 : 0 ≤ a) (a8 : a ≤ 8) (s0 : 0 ≤ s) (s3 : s ≤ 3) :
    S_law_15 [x0, x1, x2, x3, some (iv m), some (iv a), some (iv s), x7, x8, x9, x10, x11, x12, x13, x14, x15, x16, x17, x18, some (iv (if m ≤ 1 ∨ s = 0 then 6 else 1)), x20, x21, x22, x23] = .ok ([x0, x1, x2, x3, some (iv m), some (iv a), some (iv s), x7, x8, x9, x10, x11, x12, x13, x14, x15, x16, x17, x18, some (iv (if m ≤ 1 ∨ s = 0 then 6 else 1)), x20, x21, x22, x23], .nx) := by
  have hw1 : 1 ≤ (if m ≤ 1 ∨ s = 0 then (6 : Int) else 1) ∧ (if m ≤ 1 ∨ s = 0 then (6 : Int) else 1) ≤ 6 := by by_cases hw : m ≤ 1 ∨ s = 0 <;> simp [hw]
  have hw2 : a < lb (if m ≤ 1 ∨ s = 0 then (6 : Int) else 1) m a s := by
    rw [lb_wide hw1.1 a0 s0]
    by_cases hw : m ≤ 1 ∨ s = 0 <;> simp [hw] <;> omega
  have hw3 : (if m ≤ 1 ∨ s = 0 then (6 : Int) else 1) < 6 → ¬ a < lb ((if m ≤ 1 ∨ s = 0 then (6 : Int) else 1) + 1) m a s := by
    intro hlt
    have hw : ¬ (m ≤ 1 ∨ s = 0) := fun hw => by simp [hw] at hlt
    rw [lb_wide (by omega) a0 s0]
    simp only [if_neg hw] at hlt ⊢
    omega
  generalize (if m ≤ 1 ∨ s = 0 then (6 : Int) else 1) = w at hw1 hw2 hw3
  have h1 : Okl w m a := ⟨hw1.1, hw1.2, m1, m4, a0, a8⟩
  have k1 := f_mk h1 0
  unfold S_law_15
  refine ite_no (or_no ?_ (or_no ?_ (or_no ?_ (and_no (decide (w < 6)) ?_ (fun g => ?_)))))
  · simp [cfOf, startE, fin_, outsOf, retag, findTag, dRet, dSeq, dEnd, dNever, dIte, dIf, dDrop, dFld, dSet, toB, dC, dName, dBl, dNot, dAnd, dOr, tAndD, tOrD, tNotD, dTru, dBoolC, boolD, dIsi, dIsi2, dIsC, tyN, isN, d2, d3, oV, oPl, aNil, aCons, aStar, seqOf, argB, argsB, ownPl, nodupB, wb, wb1, dCall, dMeth, oMake, oMake0, dSetFld, res, resAll, bV_val, bV_own, tD_lst, tD_ins, vals, dL, dLV, dTup, dLst, oLst, sz, ofO, leD, ltD, gtD, geD, i0D, iD, truD, isSq, lenD, dFz, R.bind, dAsg, gTp, gsCons, gsNil, gNm, dPar, setAll, dAug, dSetIx, isOwn, dApp, dFor, iVals, iRes, iSeq, dSl, pNo, pSome, cutD, dNeg, fdivD, modD, powD, mulA, mulI, addD, absD, intD, max2D, min2D, max3D, min3D, isND, notND]
  · simp [cfOf, startE, fin_, outsOf, retag, findTag, dRet, dSeq, dEnd, dNever, dIte, dIf, dDrop, dFld, dSet, toB, dC, dName, dBl, dNot, dAnd, dOr, tAndD, tOrD, tNotD, dTru, dBoolC, boolD, dIsi, dIsi2, dIsC, tyN, isN, d2, d3, oV, oPl, aNil, aCons, aStar, seqOf, argB, argsB, ownPl, nodupB, wb, wb1, dCall, dMeth, oMake, oMake0, dSetFld, res, resAll, bV_val, bV_own, tD_lst, tD_ins, vals, dL, dLV, dTup, dLst, oLst, sz, ofO, leD, ltD, gtD, geD, i0D, iD, truD, isSq, lenD, dFz, R.bind, dAsg, gTp, gsCons, gsNil, gNm, dPar, setAll, dAug, dSetIx, isOwn, dApp, dFor, iVals, iRes, iSeq, dSl, pNo, pSome, cutD, dNeg, fdivD, modD, powD, mulA, mulI, addD, absD, intD, max2D, min2D, max3D, min3D, isND, notND]; omega
  · have := tru_c (c := dCall F_judge_rings (aCons (oV (dFz (oMake 3 F_Looksdd_initdd (aCons (oPl 19) (aCons (oPl 4) (aCons (oPl 5) aNil)))))) (aCons (oPl 6) (aCons (oPl 5) aNil)))) (ρ := [x0, x1, x2, x3, some (iv m), some (iv a), some (iv s), x7, x8, x9, x10, x11, x12, x13, x14, x15, x16, x17, x18, some (iv w), x20, x21, x22, x23]) h1 s0 s3 a0 (by omega) (fun d hd => by simp [cfOf, startE, fin_, outsOf, retag, findTag, dRet, dSeq, dEnd, dNever, dIte, dIf, dDrop, dFld, dSet, toB, dC, dName, dBl, dNot, dAnd, dOr, tAndD, tOrD, tNotD, dTru, dBoolC, boolD, dIsi, dIsi2, dIsC, tyN, isN, d2, d3, oV, oPl, aNil, aCons, aStar, seqOf, argB, argsB, ownPl, nodupB, wb, wb1, dCall, dMeth, oMake, oMake0, dSetFld, res, resAll, bV_val, bV_own, tD_lst, tD_ins, vals, dL, dLV, dTup, dLst, oLst, sz, ofO, leD, ltD, gtD, geD, i0D, iD, truD, isSq, lenD, dFz, R.bind, dAsg, gTp, gsCons, gsNil, gNm, dPar, setAll, dAug, dSetIx, isOwn, dApp, dFor, iVals, iRes, iSeq, dSl, pNo, pSome, cutD, dNeg, fdivD, modD, powD, mulA, mulI, addD, absD, intD, max2D, min2D, max3D, min3D, isND, notND, k1, hd])
    refine not_no ?_
    rw [this]
    simp [hw2]
  · simp [cfOf, startE, fin_, outsOf, retag, findTag, dRet, dSeq, dEnd, dNever, dIte, dIf, dDrop, dFld, dSet, toB, dC, dName, dBl, dNot, dAnd, dOr, tAndD, tOrD, tNotD, dTru, dBoolC, boolD, dIsi, dIsi2, dIsC, tyN, isN, d2, d3, oV, oPl, aNil, aCons, aStar, seqOf, argB, argsB, ownPl, nodupB, wb, wb1, dCall, dMeth, oMake, oMake0, dSetFld, res, resAll, bV_val, bV_own, tD_lst, tD_ins, vals, dL, dLV, dTup, dLst, oLst, sz, ofO, leD, ltD, gtD, geD, i0D, iD, truD, isSq, lenD, dFz, R.bind, dAsg, gTp, gsCons, gsNil, gNm, dPar, setAll, dAug, dSetIx, isOwn, dApp, dFor, iVals, iRes, iSeq, dSl, pNo, pSome, cutD, dNeg, fdivD, modD, powD, mulA, mulI, addD, absD, intD, max2D, min2D, max3D, min3D, isND, notND]
  · simp only [decide_eq_true_iff] at g
    have h2 : Okl (w + 1) m a := ⟨by omega, by omega, m1, m4, a0, a8⟩
    have k2 := f_mk h2 0
    have := tru_c (c := dCall F_judge_rings (aCons (oV (dFz (oMake 3 F_Looksdd_initdd (aCons (oV (d2 addD (oPl 19) (oV (dC (.int 1))))) (aCons (oPl 4) (aCons (oPl 5) aNil)))))) (aCons (oPl 6) (aCons (oPl 5) aNil)))) (ρ := [x0, x1, x2, x3, some (iv m), some (iv a), some (iv s), x7, x8, x9, x10, x11, x12, x13, x14, x15, x16, x17, x18, some (iv w), x20, x21, x22, x23]) h2 s0 s3 a0 (by omega) (fun d hd => by simp [cfOf, startE, fin_, outsOf, retag, findTag, dRet, dSeq, dEnd, dNever, dIte, dIf, dDrop, dFld, dSet, toB, dC, dName, dBl, dNot, dAnd, dOr, tAndD, tOrD, tNotD, dTru, dBoolC, boolD, dIsi, dIsi2, dIsC, tyN, isN, d2, d3, oV, oPl, aNil, aCons, aStar, seqOf, argB, argsB, ownPl, nodupB, wb, wb1, dCall, dMeth, oMake, oMake0, dSetFld, res, resAll, bV_val, bV_own, tD_lst, tD_ins, vals, dL, dLV, dTup, dLst, oLst, sz, ofO, leD, ltD, gtD, geD, i0D, iD, truD, isSq, lenD, dFz, R.bind, dAsg, gTp, gsCons, gsNil, gNm, dPar, setAll, dAug, dSetIx, isOwn, dApp, dFor, iVals, iRes, iSeq, dSl, pNo, pSome, cutD, dNeg, fdivD, modD, powD, mulA, mulI, addD, absD, intD, max2D, min2D, max3D, min3D, isND, notND, k2, hd])
    rw [this]
    simp [hw3 g]
end A
end
section
namespace A
open PySem Zd
set_option autoImplicit false
/-! ### is_lengths -/
def prs (L : List Int) : List (Int × Int) := L.zip (L.drop 1)
def nearB (s : Int) (L : List Int) : Bool := (prs L).all fun p => decide ((if p.2 - p.1 < 0 then -(p.2 - p.1) else p.2 - p.1) ≤ s)
def nineB (L : List Int) : Bool := L.all fun z => decide (0 ≤ z) && decide (z ≤ 9)
theorem nine_of {L : List Int} (h : nineB L = true) : InNine L := fun z hz => by
  have := List.all_eq_true.mp h z hz
  simpa using this
theorem zip_prs : ∀ L M : List Int, zipD (L.map D.int) (M.map D.int) = (L.zip M).map pr
  | [], M => by simp [zipD]
  | x :: L, [] => by simp [zipD]
  | x :: L, y :: M => by simp [zipD, zip_prs L M, pr]
theorem cut_from1 {L : List Int} (l1 : 1 ≤ L.length) : cutD (fI L) (some 1) none = some (fI (L.drop 1)) := cut_end (by omega) (by omega)
theorem f_is_lengths {L : List Int} {s : Int} (hL : InNine L) (l1 : 1 ≤ L.length) (l2 : L.length ≤ 80) (s0 : 0 ≤ s) (s3 : s ≤ 3) : F_is_lengths [.val (tI L), iv s] = .ok [none, none] (.bl (nearB s L)) := by
  have hck := f_check_step s0 s3
  have a1 : (1 : Int) ≤ L.length := by omega
  have a2 : (L.length : Int) ≤ 80 := by omega
  have c1 := lc_int (v := 2) (ρ := [some (.val (tI L)), some (iv s), none, none]) (di := iSeq (dName 0)) (t := tTrue) (c := dCall F_is_number (aCons (oPl 2) (aCons (oV (dC (.int 0))) (aCons (oV (dC (.int 9))) aNil)))) (Rg := L) (fun _ => true) (fun t => .bl (decide (0 ≤ t) && decide (t ≤ 9))) (by simp) rfl
    (by simp [iSeq, dName, bV_val, seqOf, dL, R.bind]) (fun x hx => rfl) (fun x hx _ => by
      have hn := f_is_number x 0 9
      generalize tI L = TL
      simp [cfOf, startE, fin_, outsOf, retag, findTag, dRet, dSeq, dEnd, dNever, dIte, dIf, dDrop, dFld, dSet, toB, dC, dName, dBl, dNot, dAnd, dOr, tAndD, tOrD, tNotD, dTru, dBoolC, boolD, dIsi, dIsi2, dIsC, tyN, isN, d2, d3, oV, oPl, aNil, aCons, aStar, seqOf, argB, argsB, ownPl, nodupB, wb, wb1, dCall, dMeth, oMake, oMake0, dSetFld, res, resAll, bV_val, bV_own, tD_lst, tD_ins, vals, dL, dLV, dTup, dLst, oLst, sz, ofO, leD, ltD, gtD, geD, i0D, iD, truD, isSq, lenD, dFz, R.bind, dAsg, gTp, gsCons, gsNil, gNm, dPar, setAll, dAug, dSetIx, isOwn, dApp, dFor, iVals, iRes, iSeq, dSl, pNo, pSome, cutD, dNeg, fdivD, modD, powD, mulA, mulI, addD, absD, intD, max2D, min2D, max3D, min3D, isND, notND, hn]) (by omega)
  have hf : L.filter (fun _ => true) = L := by simp
  rw [hf] at c1
  have k1 := all_of (fun t => decide (0 ≤ t) && decide (t ≤ 9)) c1
  have hz : (L.all fun t => decide (0 ≤ t) && decide (t ≤ 9)) = true := by
    rw [List.all_eq_true]
    intro z hzz
    have := hL z hzz
    simp [this.1, this.2]
  rw [hz] at k1
  have hls : listD [tI L] = some (fI L) := rfl
  have hct := cut_from1 l1
  have hzp : zip2 [tI L, fI (L.drop 1)] = some ((prs L).map pr) := by
    have : zip2 [tI L, fI (L.drop 1)] = some (zipD (L.map D.int) ((L.drop 1).map D.int)) := rfl
    rw [this, zip_prs]; rfl
  have hpl : (prs L).length ≤ 1000000 := by unfold prs; rw [List.length_zip]; omega
  have c2 := oLc_ok (di := iVals zip2 (aCons (oV (dName 0)) (aCons (oV (dSl (oV (dL listD (aCons (oPl 0) aNil))) (pSome (dC (.int 1))) pNo)) aNil))) (vs := [2, 3]) (g := gTp (gsCons (gNm 2) (gsCons (gNm 3) gsNil))) (t := tTrue) (d := d2 leD (oV (dL absD (aCons (oV (d2 (i0D fun i j => .int (i - j)) (oPl 3) (oPl 2))) aNil))) (oPl 1))
    (ρ := [some (.val (tI L)), some (iv s), none, none]) (ρ' := [some (.val (tI L)), some (iv s), none, none]) (ds := (prs L).map pr) (fun _ => true)
    (fun d => match d with | .tup [.int b, .int e] => .bl (decide ((if e - b < 0 then -(e - b) else e - b) ≤ s)) | _ => .non)
    (by
      generalize (prs L).map pr = Q at hzp
      generalize fI (L.drop 1) = F1 at hct hzp
      generalize fI L = F0 at hls hct
      generalize tI L = TL at hls hzp
      simp [cfOf, startE, fin_, outsOf, retag, findTag, dRet, dSeq, dEnd, dNever, dIte, dIf, dDrop, dFld, dSet, toB, dC, dName, dBl, dNot, dAnd, dOr, tAndD, tOrD, tNotD, dTru, dBoolC, boolD, dIsi, dIsi2, dIsC, tyN, isN, d2, d3, oV, oPl, aNil, aCons, aStar, argB, argsB, ownPl, nodupB, wb, wb1, dCall, dMeth, oMake, oMake0, dSetFld, res, resAll, bV_val, bV_own, tD_lst, tD_ins, vals, dL, dLV, dTup, dLst, oLst, sz, ofO, leD, ltD, gtD, geD, i0D, iD, truD, isSq, dFz, R.bind, dAsg, gTp, gsCons, gsNil, gNm, dPar, setAll, dAug, dSetIx, isOwn, dApp, dFor, iVals, iRes, iSeq, dSl, pNo, pSome, dNeg, fdivD, modD, powD, mulA, mulI, absD, intD, max2D, min2D, max3D, min3D, isND, notND, iVals, hls, hct, hzp]) rfl
    (fun d hd => by
      obtain ⟨⟨b, e⟩, hp, rfl⟩ := List.mem_map.mp hd
      refine ⟨[some (.val (tI L)), some (iv s), some (iv b), some (iv e)], ?_, .inl ⟨rfl, _, [some (.val (tI L)), some (iv s), some (iv b), some (iv e)], rfl, ?_, ?_⟩⟩
      · simp [wipeE, gTp, gsCons, gsNil, gNm, pr, seqOf]
      · generalize tI L = TL
        by_cases hbe : e < b <;> simp [cfOf, startE, fin_, outsOf, retag, findTag, dRet, dSeq, dEnd, dNever, dIte, dIf, dDrop, dFld, dSet, toB, dC, dName, dBl, dNot, dAnd, dOr, tAndD, tOrD, tNotD, dTru, dBoolC, boolD, dIsi, dIsi2, dIsC, tyN, isN, d2, d3, oV, oPl, aNil, aCons, aStar, seqOf, argB, argsB, ownPl, nodupB, wb, wb1, dCall, dMeth, oMake, oMake0, dSetFld, res, resAll, bV_val, bV_own, tD_lst, tD_ins, vals, dL, dLV, dTup, dLst, oLst, sz, ofO, leD, ltD, gtD, geD, i0D, iD, truD, isSq, lenD, dFz, R.bind, dAsg, gTp, gsCons, gsNil, gNm, dPar, setAll, dAug, dSetIx, isOwn, dApp, dFor, iVals, iRes, iSeq, dSl, pNo, pSome, cutD, dNeg, fdivD, modD, powD, mulA, mulI, addD, absD, intD, max2D, min2D, max3D, min3D, isND, notND, pr, hbe]
      · simp [wipeE])
    (by rw [List.length_map]; exact hpl)
  have hf2 : ((prs L).map pr).filter (fun _ => true) = (prs L).map pr := by simp
  have hb : backE [some (.val (tI L)), some (iv s), none, none] (wipeE [some (.val (tI L)), some (iv s), none, none] [2, 3]) [2, 3] = [some (.val (tI L)), some (iv s), none, none] := by simp [wipeE, backE]
  rw [hf2, hb, List.map_map] at c2
  have hal : allD [.lst (((prs L).map ((fun d => match d with | .tup [.int b, .int e] => .bl (decide ((if e - b < 0 then -(e - b) else e - b) ≤ s)) | _ => .non) ∘ pr)))] = some (.bl (nearB s L)) :=
    all_bls (fun p : Int × Int => decide ((if p.2 - p.1 < 0 then -(p.2 - p.1) else p.2 - p.1) ≤ s)) (prs L)
  have hr := f_is_row_t (L.map D.int)
  have hlen : lenD [tI L] = some (.int L.length) := by simp [lenD, lenI, tI, isSq]
  generalize (prs L).map ((fun d => match d with | .tup [.int b, .int e] => D.bl (decide ((if e - b < 0 then -(e - b) else e - b) ≤ s)) | _ => .non) ∘ pr) = Q at c2 hal
  change F_is_row [.val (tI L)] = _ at hr
  generalize tI L = TL at hck hr hlen k1 c2
  simp [cfOf, startE, fin_, outsOf, retag, findTag, dRet, dSeq, dEnd, dNever, dIte, dIf, dDrop, dFld, dSet, toB, dC, dName, dBl, dNot, dAnd, dOr, tAndD, tOrD, tNotD, dTru, dBoolC, boolD, dIsi, dIsi2, dIsC, tyN, isN, d2, d3, oV, oPl, aNil, aCons, aStar, seqOf, argB, argsB, ownPl, nodupB, wb, wb1, dCall, dMeth, oMake, oMake0, dSetFld, res, resAll, bV_val, bV_own, tD_lst, tD_ins, vals, dL, dLV, dTup, dLst, oLst, sz, ofO, leD, ltD, gtD, geD, i0D, iD, truD, isSq, dFz, R.bind, dAsg, gTp, gsCons, gsNil, gNm, dPar, setAll, dAug, dSetIx, isOwn, dApp, dFor, iVals, iRes, iSeq, dSl, pNo, pSome, cutD, dNeg, fdivD, modD, mulA, mulI, absD, intD, max2D, min2D, max3D, min3D, isND, notND] at k1
  simp [cfOf, startE, fin_, outsOf, retag, findTag, dRet, dSeq, dEnd, dNever, dIte, dIf, dDrop, dFld, dSet, toB, dC, dName, dBl, dNot, dAnd, dOr, tAndD, tOrD, tNotD, dTru, dBoolC, boolD, dIsi, dIsi2, dIsC, tyN, isN, d2, d3, oV, oPl, aNil, aCons, aStar, seqOf, argB, argsB, ownPl, nodupB, wb, wb1, dCall, dMeth, oMake, oMake0, dSetFld, res, resAll, bV_val, bV_own, tD_lst, tD_ins, vals, dL, dLV, dTup, dLst, oLst, sz, ofO, leD, ltD, gtD, geD, i0D, iD, truD, isSq, dFz, R.bind, dAsg, gTp, gsCons, gsNil, gNm, dPar, setAll, dAug, dSetIx, isOwn, dApp, dFor, iVals, iRes, iSeq, dSl, pNo, pSome, cutD, dNeg, fdivD, modD, mulA, mulI, absD, intD, max2D, min2D, max3D, min3D, isND, notND, F_is_lengths, D_is_lengths, hck, hr, hlen, vv_MOST_TICKS, a1, a2, k1, c2, hal]
end A
end
section
namespace A
open PySem Zd
set_option autoImplicit false
def toldOk (e m a s : Int) : Bool := nineB (toldI e m a s) && nearB s (toldI e m a s) && nearB 3 (toldI e m a s) && decide (((toldI e m a s).length : Int) = (m - 1) * e + 1) && isR e m a (toldI e m a s) ((m - 1) * e)
theorem told_all : ∀ e : _root_.Fin 6, ∀ m : _root_.Fin 4, ∀ a : _root_.Fin 9, ∀ s : _root_.Fin 4, toldOk (e.val + 1) (m.val + 1) a.val s.val = true := by decide +kernel
theorem told_ok {e m a s : Int} (h : Okl e m a) (s0 : 0 ≤ s) (s3 : s ≤ 3) : toldOk e m a s = true := by
  have e1 := h.e1; have e6 := h.e6; have m1 := h.m1; have m4 := h.m4; have a0 := h.a0; have a8 := h.a8
  have := told_all ⟨(e - 1).toNat, by omega⟩ ⟨(m - 1).toNat, by omega⟩ ⟨a.toNat, by omega⟩ ⟨s.toNat, by omega⟩
  simp only at this
  rwa [show (((e - 1).toNat : Nat) : Int) + 1 = e by omega, show (((m - 1).toNat : Nat) : Int) + 1 = m by omega, show ((a.toNat : Nat) : Int) = a by omega, show ((s.toNat : Nat) : Int) = s by omega] at this
theorem f_lying_shows {e m a s : Int} (h : Okl e m a) (s0 : 0 ≤ s) (s3 : s ≤ 3) : F_Lying_shows [.val (.ins 5 [tI (toldI e m a s)]), .val (LK e m a), iv 3, iv 9] = .ok [none, none, none, none] (.bl true) := by
  have e1 := h.e1; have e6 := h.e6; have m1 := h.m1; have m4 := h.m4; have a0 := h.a0; have a8 := h.a8
  have hp := span_b h
  have ht := told_ok h s0 s3
  unfold toldOk at ht
  simp only [Bool.and_eq_true, decide_eq_true_iff] at ht
  obtain ⟨⟨⟨⟨h1, h2⟩, h3⟩, h4⟩, h5⟩ := ht
  have hL := nine_of h1
  generalize toldI e m a s = Z at *
  have hc := f_check_claim (s := 3) (f := 9) [.int e, .int m, .int a] (by omega) (by omega) (by omega) (by omega)
  have hil := f_is_lengths (s := 3) hL (by omega) (by omega) (by omega) (by omega)
  rw [h3] at hil
  have hsp := f_span (a := a) e1 e6 m1 m4
  have hr := f_rings_of h hL (by omega) (by omega)
  have hmem : (m - 1) * e ∈ rings e m a Z := by
    rw [mem_rings e1 m1]
    exact ⟨⟨(m - 1).toNat, by rw [show (((m - 1).toNat : Nat) : Int) = m - 1 by omega], by omega⟩, h5⟩
  have hin := in_tI true ((m - 1) * e) (rings e m a Z)
  have hin2 : decide ((m - 1) * e ∈ rings e m a Z) = true := by simpa using hmem
  rw [hin2] at hin
  have hT := f_is_true (f := 9) h hL (by omega) (by omega) (by omega) (by omega) hmem
  have a1 : ((win e m Z ((m - 1) * e)).all fun z => decide (9 < z)) = false := by
    rw [List.all_eq_false]
    obtain ⟨v, v1, v2, hv⟩ := min_spec (win_ne (e := e) (m := m) (t := (m - 1) * e) (L := Z) (by omega) hp.1 (by omega))
    obtain ⟨u, u1, u2, hu⟩ := win_mem (by omega) hp.1 (by omega) v1
    have := lg_rng hL (u := u) (by omega) (by omega)
    exact ⟨v, v1, by simp; omega⟩
  rw [a1] at hT
  have hlen : lenD [tI Z] = some (.int ((m - 1) * e + 1)) := by simp [lenD, lenI, tI, isSq, h4]
  have hne : neD (.int ((m - 1) * e + 1)) (.int ((m - 1) * e + 1)) = some (.bl false) := by
    show (if _ then _ else _) = _
    rw [if_pos ⟨fine_int _, fine_int _⟩]
    simp [D.eqb]
  generalize tI (rings e m a Z) = RQ at hr hin
  generalize tI Z = TZ at hil hr hT hlen
  have ei : ∀ a b : Int, addD (.int a) (.int b) = some (.int (a + b)) := fun _ _ => rfl
  simp [cfOf, startE, fin_, outsOf, retag, findTag, dRet, dSeq, dEnd, dNever, dIte, dIf, dDrop, dFld, dSet, toB, dC, dName, dBl, dNot, dAnd, dOr, tAndD, tOrD, tNotD, dTru, dBoolC, boolD, dIsi, dIsi2, dIsC, tyN, isN, d2, d3, oV, oPl, aNil, aCons, aStar, argB, argsB, ownPl, nodupB, wb, wb1, dCall, dMeth, oMake, oMake0, dSetFld, res, resAll, bV_val, bV_own, tD_lst, tD_ins, vals, dL, dLV, dTup, dLst, oLst, sz, ofO, leD, ltD, gtD, geD, i0D, iD, truD, isSq, dFz, R.bind, dAsg, gTp, gsCons, gsNil, gNm, dPar, setAll, dAug, dSetIx, isOwn, dApp, dFor, iVals, iRes, iSeq, dSl, pNo, pSome, dNeg, fdivD, modD, powD, mulA, mulI, absD, intD, max2D, min2D, max3D, min3D, isND, notND, F_Lying_shows, D_Lying_shows, hc, hil, fp_lengths, hlen, hsp, M_span, hne, hr, hin, hT, ei]
theorem nine_e {e : Int} (e1 : 1 ≤ e) (e6 : e ≤ 6) : nineB (List.replicate e.toNat 9) = true ∧ nearB 0 (List.replicate e.toNat 9) = true ∧ (List.replicate e.toNat (9 : Int)).length = e.toNat ∧ lg (List.replicate e.toNat 9) 0 = 9 := by
  have : e = 1 ∨ e = 2 ∨ e = 3 ∨ e = 4 ∨ e = 5 ∨ e = 6 := by omega
  rcases this with rfl | rfl | rfl | rfl | rfl | rfl <;> decide
theorem f_missed_shows {e m a : Int} (h : Okl e m a) : ∃ b : Bool, (m = 1 → b = false) ∧ F_Missed_shows [.val (.ins 7 [tI (List.replicate e.toNat 9)]), .val (LK e m a), iv 0, iv e] = .ok [none, none, none, none] (.bl b) := by
  have e1 := h.e1; have e6 := h.e6; have m1 := h.m1; have m4 := h.m4; have a0 := h.a0; have a8 := h.a8
  obtain ⟨h1, h2, h3, h5⟩ := nine_e e1 e6
  have hm : ∀ z ∈ List.replicate e.toNat (9 : Int), z = 9 := fun z hz => List.eq_of_mem_replicate hz
  have hL := nine_of h1
  generalize List.replicate e.toNat (9 : Int) = Z at *
  have hlr := rings_len (a := a) (L := Z) e1 m1
  refine ⟨!((rings e m a Z).any fun t => decide (0 ≤ t)), fun q => ?_, ?_⟩
  · subst q
    rw [Bool.not_eq_false', List.any_eq_true]
    refine ⟨0, ?_, by simp⟩
    rw [mem_rings e1 m1, isR_iff]
    refine ⟨⟨0, by simp, by omega⟩, by simp, fun j hj => ?_⟩
    have hj : j = 0 := by omega
    subst hj
    simp [h5]; omega
  · have hc := f_check_stretch (s := 0) (f := e) [.int e, .int m, .int a] (by omega) (by omega) e1 (by omega)
    have hil := f_is_lengths (s := 0) hL (by omega) (by omega) (by omega) (by omega)
    rw [h2] at hil
    have hr := f_rings_of h hL (by omega) (by omega)
    have hlen : lenD [tI Z] = some (.int e) := by
      have : (Z.length : Int) = e := by omega
      simp [lenD, lenI, tI, isSq, this]
    have hls : listD [tI Z] = some (fI Z) := rfl
    have hct : cutD (fI Z) (some 0) none = some (fI (Z.drop 0)) := cut_end (by omega) (by omega)
    simp only [List.drop_zero] at hct
    have hlt : ¬ e < e := by omega
    have c1 := lc_int (v := 5) (ρ := [some (.val (.ins 7 [tI Z])), some (.val (LK e m a)), some (iv 0), some (iv e), some (iv 0), none, none]) (di := iSeq (dSl (oV (dL listD (aCons (oV (dFld fp_lengths (oPl 0))) aNil))) (pSome (dName 4)) pNo)) (t := tTrue) (c := d2 gtD (oPl 5) (oV (dFld fp_above (oPl 1)))) (Rg := Z) (fun _ => true) (fun t => .bl (decide (a < t))) (by simp) rfl
      (by
        have hsq : seqOf (fI Z) = some (Z.map D.int) := rfl
        generalize fI Z = FZ at hls hct hsq
        generalize tI Z = TZ at hls
        generalize Z.map D.int = Q at hsq
        simp [cfOf, startE, fin_, outsOf, retag, findTag, dRet, dSeq, dEnd, dNever, dIte, dIf, dDrop, dFld, dSet, toB, dC, dName, dBl, dNot, dAnd, dOr, tAndD, tOrD, tNotD, dTru, dBoolC, boolD, dIsi, dIsi2, dIsC, tyN, isN, d2, d3, oV, oPl, aNil, aCons, aStar, argB, argsB, ownPl, nodupB, wb, wb1, dCall, dMeth, oMake, oMake0, dSetFld, res, resAll, bV_val, bV_own, tD_lst, tD_ins, vals, dL, dLV, dTup, dLst, oLst, sz, ofO, leD, ltD, gtD, geD, i0D, iD, truD, isSq, dFz, R.bind, dAsg, gTp, gsCons, gsNil, gNm, dPar, setAll, dAug, dSetIx, isOwn, dApp, dFor, iVals, iRes, iSeq, dSl, pNo, pSome, dNeg, fdivD, modD, powD, mulA, mulI, absD, intD, max2D, min2D, max3D, min3D, isND, notND, fp_lengths, hls, hct, hsq]) (fun x hx => rfl) (fun x hx _ => by
        generalize tI Z = TZ
        simp [cfOf, startE, fin_, outsOf, retag, findTag, dRet, dSeq, dEnd, dNever, dIte, dIf, dDrop, dFld, dSet, toB, dC, dName, dBl, dNot, dAnd, dOr, tAndD, tOrD, tNotD, dTru, dBoolC, boolD, dIsi, dIsi2, dIsC, tyN, isN, d2, d3, oV, oPl, aNil, aCons, aStar, seqOf, argB, argsB, ownPl, nodupB, wb, wb1, dCall, dMeth, oMake, oMake0, dSetFld, res, resAll, bV_val, bV_own, tD_lst, tD_ins, vals, dL, dLV, dTup, dLst, oLst, sz, ofO, leD, ltD, gtD, geD, i0D, iD, truD, isSq, lenD, dFz, R.bind, dAsg, gTp, gsCons, gsNil, gNm, dPar, setAll, dAug, dSetIx, isOwn, dApp, dFor, iVals, iRes, iSeq, dSl, pNo, pSome, cutD, dNeg, fdivD, modD, powD, mulA, mulI, addD, absD, intD, max2D, min2D, max3D, min3D, isND, notND, fp_above]) (by omega)
    have hf : Z.filter (fun _ => true) = Z := by simp
    rw [hf] at c1
    have k1 := all_of (fun t => decide (a < t)) c1
    have hz : (Z.all fun t => decide (a < t)) = true := by
      rw [List.all_eq_true]
      intro z hzz
      rw [hm z hzz]; simp; omega
    rw [hz] at k1
    have c2 := lc_int (v := 6) (ρ := [some (.val (.ins 7 [tI Z])), some (.val (LK e m a)), some (iv 0), some (iv e), some (iv 0), none, none]) (di := iSeq (dCall F_rings_of (aCons (oPl 1) (aCons (oV (dFld fp_lengths (oPl 0))) aNil)))) (t := tTrue) (c := d2 geD (oPl 6) (oPl 4)) (Rg := rings e m a Z) (fun _ => true) (fun t => .bl (decide (0 ≤ t))) (by simp) rfl
      (by
        have hsq : seqOf (tI (rings e m a Z)) = some ((rings e m a Z).map D.int) := rfl
        generalize tI (rings e m a Z) = RQ at hr hsq
        generalize tI Z = TZ at hr
        generalize (rings e m a Z).map D.int = Q at hsq
        simp [cfOf, startE, fin_, outsOf, retag, findTag, dRet, dSeq, dEnd, dNever, dIte, dIf, dDrop, dFld, dSet, toB, dC, dName, dBl, dNot, dAnd, dOr, tAndD, tOrD, tNotD, dTru, dBoolC, boolD, dIsi, dIsi2, dIsC, tyN, isN, d2, d3, oV, oPl, aNil, aCons, aStar, argB, argsB, ownPl, nodupB, wb, wb1, dCall, dMeth, oMake, oMake0, dSetFld, res, resAll, bV_val, bV_own, tD_lst, tD_ins, vals, dL, dLV, dTup, dLst, oLst, sz, ofO, leD, ltD, gtD, geD, i0D, iD, truD, isSq, dFz, R.bind, dAsg, gTp, gsCons, gsNil, gNm, dPar, setAll, dAug, dSetIx, isOwn, dApp, dFor, iVals, iRes, iSeq, dSl, pNo, pSome, dNeg, fdivD, modD, powD, mulA, mulI, absD, intD, max2D, min2D, max3D, min3D, isND, notND, fp_lengths, hr, hsq]) (fun x hx => rfl) (fun x hx _ => by
        generalize tI Z = TZ
        simp [cfOf, startE, fin_, outsOf, retag, findTag, dRet, dSeq, dEnd, dNever, dIte, dIf, dDrop, dFld, dSet, toB, dC, dName, dBl, dNot, dAnd, dOr, tAndD, tOrD, tNotD, dTru, dBoolC, boolD, dIsi, dIsi2, dIsC, tyN, isN, d2, d3, oV, oPl, aNil, aCons, aStar, seqOf, argB, argsB, ownPl, nodupB, wb, wb1, dCall, dMeth, oMake, oMake0, dSetFld, res, resAll, bV_val, bV_own, tD_lst, tD_ins, vals, dL, dLV, dTup, dLst, oLst, sz, ofO, leD, ltD, gtD, geD, i0D, iD, truD, isSq, lenD, dFz, R.bind, dAsg, gTp, gsCons, gsNil, gNm, dPar, setAll, dAug, dSetIx, isOwn, dApp, dFor, iVals, iRes, iSeq, dSl, pNo, pSome, cutD, dNeg, fdivD, modD, powD, mulA, mulI, addD, absD, intD, max2D, min2D, max3D, min3D, isND, notND]) (by omega)
    have hf2 : (rings e m a Z).filter (fun _ => true) = rings e m a Z := by simp
    rw [hf2] at c2
    have k2 := any_of (fun t => decide (0 ≤ t)) c2
    generalize ((rings e m a Z).any fun t => decide (0 ≤ t)) = bb at k2
    generalize tI (rings e m a Z) = RQ at hr
    generalize tI Z = TZ at hil hr hlen k1 k2
    simp [cfOf, startE, fin_, outsOf, retag, findTag, dRet, dSeq, dEnd, dNever, dIte, dIf, dDrop, dFld, dSet, toB, dC, dName, dBl, dNot, dAnd, dOr, tAndD, tOrD, tNotD, dTru, dBoolC, boolD, dIsi, dIsi2, dIsC, tyN, isN, d2, d3, oV, oPl, aNil, aCons, aStar, argB, argsB, ownPl, nodupB, wb, wb1, dCall, dMeth, oMake, oMake0, dSetFld, res, resAll, bV_val, bV_own, tD_lst, tD_ins, vals, dL, dLV, dTup, dLst, oLst, sz, ofO, leD, ltD, gtD, geD, i0D, iD, truD, isSq, dFz, R.bind, dAsg, gTp, gsCons, gsNil, gNm, dPar, setAll, dAug, dSetIx, isOwn, dApp, dFor, iVals, iRes, iSeq, dSl, pNo, pSome, dNeg, fdivD, modD, powD, mulA, mulI, absD, intD, max2D, min2D, max3D, min3D, isND, notND] at k1 k2
    simp [cfOf, startE, fin_, outsOf, retag, findTag, dRet, dSeq, dEnd, dNever, dIte, dIf, dDrop, dFld, dSet, toB, dC, dName, dBl, dNot, dAnd, dOr, tAndD, tOrD, tNotD, dTru, dBoolC, boolD, dIsi, dIsi2, dIsC, tyN, isN, d2, d3, oV, oPl, aNil, aCons, aStar, argB, argsB, ownPl, nodupB, wb, wb1, dCall, dMeth, oMake, oMake0, dSetFld, res, resAll, bV_val, bV_own, tD_lst, tD_ins, vals, dL, dLV, dTup, dLst, oLst, sz, ofO, leD, ltD, gtD, geD, i0D, iD, truD, isSq, dFz, R.bind, dAsg, gTp, gsCons, gsNil, gNm, dPar, setAll, dAug, dSetIx, isOwn, dApp, dFor, iVals, iRes, iSeq, dSl, pNo, pSome, dNeg, fdivD, modD, powD, mulA, mulI, absD, intD, max2D, min2D, max3D, min3D, isND, notND, F_Missed_shows, D_Missed_shows, hc, hil, fp_lengths, hlen, hlt, k1, k2]
theorem st17 {x0 x1 x2 x3 x4 x5 x6 x7 x8 x9 x10 x11 x12 x13 x14 x15 x16 x17 x18 x19 x20 x21 x22 x23 : Option B} {e m a s : Int} (h : Okl e m a) (s0 : 0 ≤ s) (s3 : s ≤ 3) :
    S_law_17 [x0, x1, x2, some (iv e), some (iv m), x5, some (iv s), some (.val (LK e m a)), x8, x9, x10, x11, x12, x13, x14, x15, x16, x17, x18, x19, some (.val (.ins 5 [tI (toldI e m a s)])), x21, x22, x23] = .ok ([x0, x1, x2, some (iv e), some (iv m), x5, some (iv s), some (.val (LK e m a)), x8, x9, x10, x11, x12, x13, x14, x15, x16, x17, x18, x19, some (.val (.ins 5 [tI (toldI e m a s)])), x21, x22, x23], .nx) := by
  have e1 := h.e1; have e6 := h.e6; have m1 := h.m1; have m4 := h.m4; have a0 := h.a0; have a8 := h.a8
  have hp := span_b h
  have hs1 := f_lying_shows h s0 s3
  obtain ⟨b, hb, hs2⟩ := f_missed_shows h
  have ht := told_ok h s0 s3
  unfold toldOk at ht
  simp only [Bool.and_eq_true, decide_eq_true_iff] at ht
  obtain ⟨⟨⟨⟨h1, h2⟩, h3⟩, h4⟩, h5⟩ := ht
  have hil := f_is_lengths (s := s) (nine_of h1) (by omega) (by omega) s0 s3
  rw [h2] at hil
  have hk : F_kept_row [.val (tI (toldI e m a s))] = .ok [none] (tI (toldI e m a s)) := f_kept_row ((toldI e m a s).map D.int)
  have hk2 : F_kept_row [.val (tI (List.replicate e.toNat 9))] = .ok [none] (tI (List.replicate e.toNat 9)) := f_kept_row ((List.replicate e.toNat 9).map D.int)
  have hz := mul_zeros (k := e) e1 (by omega) 9
  have q1 := eq_int
  have hsh : M_shows 5 = some F_Lying_shows := rfl
  have hsh7 : M_shows 7 = some F_Missed_shows := rfl
  unfold S_law_17
  generalize tI (toldI e m a s) = TQ at hs1 hil hk
  generalize tI (List.replicate e.toNat 9) = TR at hs2 hk2 hz
  refine ite_no (or_no (not_no ?_) (or_no (not_no ?_) (and_nn b (decide (m = 1)) ?_ ?_ ?_)))
  · simp [cfOf, startE, fin_, outsOf, retag, findTag, dRet, dSeq, dEnd, dNever, dIte, dIf, dDrop, dFld, dSet, toB, dC, dName, dBl, dNot, dAnd, dOr, tAndD, tOrD, tNotD, dTru, dBoolC, boolD, dIsi, dIsi2, dIsC, tyN, isN, d2, d3, oV, oPl, aNil, aCons, aStar, seqOf, argB, argsB, ownPl, nodupB, wb, wb1, dCall, dMeth, oMake, oMake0, dSetFld, res, resAll, bV_val, bV_own, tD_lst, tD_ins, vals, dL, dLV, dTup, dLst, oLst, sz, ofO, leD, ltD, gtD, geD, i0D, iD, truD, isSq, lenD, dFz, R.bind, dAsg, gTp, gsCons, gsNil, gNm, dPar, setAll, dAug, dSetIx, isOwn, dApp, dFor, iVals, iRes, iSeq, dSl, pNo, pSome, cutD, dNeg, fdivD, modD, powD, mulI, absD, intD, max2D, min2D, max3D, min3D, isND, notND, fp_lengths, F_Lyingdd_initdd, D_Lyingdd_initdd, hk, hs1, hsh]
  · simp [cfOf, startE, fin_, outsOf, retag, findTag, dRet, dSeq, dEnd, dNever, dIte, dIf, dDrop, dFld, dSet, toB, dC, dName, dBl, dNot, dAnd, dOr, tAndD, tOrD, tNotD, dTru, dBoolC, boolD, dIsi, dIsi2, dIsC, tyN, isN, d2, d3, oV, oPl, aNil, aCons, aStar, seqOf, argB, argsB, ownPl, nodupB, wb, wb1, dCall, dMeth, oMake, oMake0, dSetFld, res, resAll, bV_val, bV_own, tD_lst, tD_ins, vals, dL, dLV, dTup, dLst, oLst, sz, ofO, leD, ltD, gtD, geD, i0D, iD, truD, isSq, lenD, dFz, R.bind, dAsg, gTp, gsCons, gsNil, gNm, dPar, setAll, dAug, dSetIx, isOwn, dApp, dFor, iVals, iRes, iSeq, dSl, pNo, pSome, cutD, dNeg, fdivD, modD, powD, mulI, absD, intD, max2D, min2D, max3D, min3D, isND, notND, fp_lengths, hil]
  · simp [cfOf, startE, fin_, outsOf, retag, findTag, dRet, dSeq, dEnd, dNever, dIte, dIf, dDrop, dFld, dSet, toB, dC, dName, dBl, dNot, dAnd, dOr, tAndD, tOrD, tNotD, dTru, dBoolC, boolD, dIsi, dIsi2, dIsC, tyN, isN, d2, d3, oV, oPl, aNil, aCons, aStar, seqOf, argB, argsB, ownPl, nodupB, wb, wb1, dCall, dMeth, oMake, oMake0, dSetFld, res, resAll, bV_val, bV_own, tD_lst, tD_ins, vals, dL, dLV, dTup, dLst, oLst, sz, ofO, leD, ltD, gtD, geD, i0D, iD, truD, isSq, lenD, dFz, R.bind, dAsg, gTp, gsCons, gsNil, gNm, dPar, setAll, dAug, dSetIx, isOwn, dApp, dFor, iVals, iRes, iSeq, dSl, pNo, pSome, cutD, dNeg, fdivD, modD, powD, mulI, absD, intD, max2D, min2D, max3D, min3D, isND, notND, hz, fp_lengths, F_Misseddd_initdd, D_Misseddd_initdd, hk2, hs2, hsh7]
  · simp [cfOf, startE, fin_, outsOf, retag, findTag, dRet, dSeq, dEnd, dNever, dIte, dIf, dDrop, dFld, dSet, toB, dC, dName, dBl, dNot, dAnd, dOr, tAndD, tOrD, tNotD, dTru, dBoolC, boolD, dIsi, dIsi2, dIsC, tyN, isN, d2, d3, oV, oPl, aNil, aCons, aStar, seqOf, argB, argsB, ownPl, nodupB, wb, wb1, dCall, dMeth, oMake, oMake0, dSetFld, res, resAll, bV_val, bV_own, tD_lst, tD_ins, vals, dL, dLV, dTup, dLst, oLst, sz, ofO, leD, ltD, gtD, geD, i0D, iD, truD, isSq, lenD, dFz, R.bind, dAsg, gTp, gsCons, gsNil, gNm, dPar, setAll, dAug, dSetIx, isOwn, dApp, dFor, iVals, iRes, iSeq, dSl, pNo, pSome, cutD, dNeg, fdivD, modD, powD, mulA, mulI, addD, absD, intD, max2D, min2D, max3D, min3D, isND, notND, q1]
  · intro g
    by_cases hm : m = 1
    · rw [hb hm] at g; cases g
    · simp [hm]
end A
end
section
namespace A
open PySem Zd
set_option autoImplicit false
theorem seq_nx {a b : DSn} {ρ ρ' : Zd.Env} (h : a ρ = .ok (ρ', .nx)) : dSeq a b ρ = b ρ' := by simp [dSeq, h, R.bind]
theorem nw_one {ρ : Zd.Env} {i : Nat} {x : Option B} (h : ρ[i]? = some x) (w : nw x = true) : noOwn ρ [i] = true := by
  unfold noOwn
  rw [List.all_cons, h]
  cases x with
  | none => rfl
  | some b => cases b <;> first | rfl | cases w
theorem nw_two {ρ : Zd.Env} {i j : Nat} {x y : Option B} (h : ρ[i]? = some x) (w : nw x = true) (h2 : ρ[j]? = some y) (w2 : nw y = true) : noOwn ρ [i, j] = true := by
  have e1 := nw_one h w
  have e2 := nw_one h2 w2
  unfold noOwn at *
  simp only [List.all_cons, List.all_nil, Bool.and_true] at *
  rw [e1, e2]; rfl
abbrev drw (S : List Int) (n : Int) : Option B := some (.own 0 (.lst [fI S, .int 0, .int n]))
theorem st1 {x0 x1 x2 x3 x4 x5 x6 x7 x8 x9 x10 x11 x12 x13 x14 x15 x16 x17 x18 x19 x20 x21 x22 x23 : Option B} {S : List Int} {n : Int} (hn : 0 ≤ n) : ∃ e m a s : Int, Okl e m a ∧ 0 ≤ s ∧ s ≤ 3 ∧
    S_law_1 [x0, drw S n, x2, x3, x4, x5, x6, x7, x8, x9, x10, x11, x12, x13, x14, x15, x16, x17, x18, x19, x20, x21, x22, x23] = .ok ([x0, drw S (n + 1 + 1 + 1 + 1), x2, some (iv e), some (iv m), some (iv a), some (iv s), x7, x8, x9, x10, x11, x12, x13, x14, x15, x16, x17, x18, x19, x20, x21, x22, x23], .nx) := by
  obtain ⟨r1, a1, b1, h1⟩ := f_next (L := S) (t := 0) (b := 6) hn (by omega)
  obtain ⟨r2, a2, b2, h2⟩ := f_next (L := S) (t := 0) (b := 4) (n := n + 1) (by omega) (by omega)
  obtain ⟨r3, a3, b3, h3⟩ := f_next (L := S) (t := 0) (b := 9) (n := n + 1 + 1) (by omega) (by omega)
  obtain ⟨r4, a4, b4, h4⟩ := f_next (L := S) (t := 0) (b := 4) (n := n + 1 + 1 + 1) (by omega) (by omega)
  refine ⟨1 + r1, 1 + r2, r3, r4, ⟨by omega, by omega, by omega, by omega, by omega, by omega⟩, a4, by omega, ?_⟩
  unfold S_law_1
  unfold drw
  generalize fI S = FS at *
  simp [cfOf, startE, fin_, outsOf, retag, findTag, dRet, dSeq, dEnd, dNever, dIte, dIf, dDrop, dFld, dSet, toB, dC, dName, dBl, dNot, dAnd, dOr, tAndD, tOrD, tNotD, dTru, dBoolC, boolD, dIsi, dIsi2, dIsC, tyN, isN, d2, d3, oV, oPl, aNil, aCons, aStar, seqOf, argB, argsB, ownPl, nodupB, wb, wb1, dCall, dMeth, oMake, oMake0, dSetFld, res, resAll, bV_val, bV_own, tD_lst, tD_ins, vals, dL, dLV, dTup, dLst, oLst, sz, ofO, leD, ltD, gtD, geD, i0D, iD, truD, isSq, lenD, dFz, R.bind, dAsg, gTp, gsCons, gsNil, gNm, dPar, setAll, dAug, dSetIx, isOwn, dApp, dFor, iVals, iRes, iSeq, dSl, pNo, pSome, cutD, dNeg, fdivD, modD, powD, mulA, mulI, addD, absD, intD, max2D, min2D, max3D, min3D, isND, notND, h1, h2, h3, h4]
theorem st2 {x0 x1 x2 x3 x4 x5 x6 x7 x8 x9 x10 x11 x12 x13 x14 x15 x16 x17 x18 x19 x20 x21 x22 x23 : Option B} {e m a s n : Int} {S : List Int} (h : Okl e m a) (s0 : 0 ≤ s) (s3 : s ≤ 3) (hn : 0 ≤ n) : ∃ (n' : Int) (Z : List Int), 0 ≤ n' ∧ InNine Z ∧ Near s Z ∧ 1 ≤ Z.length ∧ Z.length ≤ 40 ∧
    S_law_2 [x0, drw S n, x2, some (iv e), some (iv m), some (iv a), some (iv s), x7, x8, x9, x10, x11, x12, x13, x14, x15, x16, x17, x18, x19, x20, x21, x22, x23] = .ok ([x0, drw S n', x2, some (iv e), some (iv m), some (iv a), some (iv s), some (.val (LK e m a)), some (.val (tI Z)), x9, x10, x11, x12, x13, x14, x15, x16, x17, x18, x19, x20, x21, x22, x23], .nx) := by
  obtain ⟨r, r0, r1, hr⟩ := f_next (L := S) (t := 0) (b := 40) hn (by omega)
  obtain ⟨n', Z, z0, z1, z2, z3, hz⟩ := f_lengths (L := S) (m := 1 + r) (s := s) (t := 0) (n := n + 1) (by omega) (by omega) s0 s3 (by omega)
  have hk := f_mk h 0
  refine ⟨n', Z, z0, z1, z2, by omega, by omega, ?_⟩
  unfold S_law_2
  generalize tI Z = TZ at *
  unfold drw
  generalize fI S = FS at *
  simp [cfOf, startE, fin_, outsOf, retag, findTag, dRet, dSeq, dEnd, dNever, dIte, dIf, dDrop, dFld, dSet, toB, dC, dName, dBl, dNot, dAnd, dOr, tAndD, tOrD, tNotD, dTru, dBoolC, boolD, dIsi, dIsi2, dIsC, tyN, isN, d2, d3, oV, oPl, aNil, aCons, aStar, seqOf, argB, argsB, ownPl, nodupB, wb, wb1, dCall, dMeth, oMake, oMake0, dSetFld, res, resAll, bV_val, bV_own, tD_lst, tD_ins, vals, dL, dLV, dTup, dLst, oLst, sz, ofO, leD, ltD, gtD, geD, i0D, iD, truD, isSq, lenD, dFz, R.bind, dAsg, gTp, gsCons, gsNil, gNm, dPar, setAll, dAug, dSetIx, isOwn, dApp, dFor, iVals, iRes, iSeq, dSl, pNo, pSome, cutD, dNeg, fdivD, modD, powD, mulA, mulI, addD, absD, intD, max2D, min2D, max3D, min3D, isND, notND, hr, hz, hk]
theorem st3 {x0 x1 x2 x3 x4 x5 x6 x7 x8 x9 x10 x11 x12 x13 x14 x15 x16 x17 x18 x19 x20 x21 x22 x23 : Option B} {e m a : Int} {L : List Int} (h : Okl e m a) (hL : InNine L) (l1 : 1 ≤ L.length) (l2 : L.length ≤ 80) :
    S_law_3 [x0, x1, x2, x3, x4, x5, x6, some (.val (LK e m a)), some (.val (tI L)), x9, x10, x11, x12, x13, x14, x15, x16, x17, x18, x19, x20, x21, x22, x23] = .ok ([x0, x1, x2, x3, x4, x5, x6, some (.val (LK e m a)), some (.val (tI L)), some (.val (tI (rings e m a L))), x10, x11, x12, x13, x14, x15, x16, x17, x18, x19, x20, x21, x22, x23], .nx) := by
  have hr := f_rings_of h hL l1 l2
  unfold S_law_3
  generalize tI (rings e m a L) = RR at *
  generalize tI L = TL at *
  simp [cfOf, startE, fin_, outsOf, retag, findTag, dRet, dSeq, dEnd, dNever, dIte, dIf, dDrop, dFld, dSet, toB, dC, dName, dBl, dNot, dAnd, dOr, tAndD, tOrD, tNotD, dTru, dBoolC, boolD, dIsi, dIsi2, dIsC, tyN, isN, d2, d3, oV, oPl, aNil, aCons, aStar, seqOf, argB, argsB, ownPl, nodupB, wb, wb1, dCall, dMeth, oMake, oMake0, dSetFld, res, resAll, bV_val, bV_own, tD_lst, tD_ins, vals, dL, dLV, dTup, dLst, oLst, sz, ofO, leD, ltD, gtD, geD, i0D, iD, truD, isSq, lenD, dFz, R.bind, dAsg, gTp, gsCons, gsNil, gNm, dPar, setAll, dAug, dSetIx, isOwn, dApp, dFor, iVals, iRes, iSeq, dSl, pNo, pSome, cutD, dNeg, fdivD, modD, powD, mulA, mulI, addD, absD, intD, max2D, min2D, max3D, min3D, isND, notND, hr]
theorem st5 {x0 x1 x2 x3 x4 x5 x6 x7 x8 x9 x10 x11 x12 x13 x14 x15 x16 x17 x18 x19 x20 x21 x22 x23 : Option B} {n : Int} {L S : List Int} (hn : 0 ≤ n) (l1 : 1 ≤ L.length) : ∃ c : Int, 1 ≤ c ∧ c ≤ L.length ∧
    S_law_5 [x0, drw S n, x2, x3, x4, x5, x6, x7, some (.val (tI L)), x9, x10, x11, x12, x13, x14, x15, x16, x17, x18, x19, x20, x21, x22, x23] = .ok ([x0, drw S (n + 1), x2, x3, x4, x5, x6, x7, some (.val (tI L)), x9, x10, x11, some (iv c), x13, x14, x15, x16, x17, x18, x19, x20, x21, x22, x23], .nx) := by
  obtain ⟨r, r0, r1, hr⟩ := f_next (L := S) (t := 0) (b := L.length) hn (by omega)
  refine ⟨1 + r, by omega, by omega, ?_⟩
  have hlen : lenD [tI L] = some (.int L.length) := by simp [lenD, lenI, tI, isSq]
  unfold S_law_5
  generalize tI L = TL at *
  unfold drw
  generalize fI S = FS at *
  simp [cfOf, startE, fin_, outsOf, retag, findTag, dRet, dSeq, dEnd, dNever, dIte, dIf, dDrop, dFld, dSet, toB, dC, dName, dBl, dNot, dAnd, dOr, tAndD, tOrD, tNotD, dTru, dBoolC, boolD, dIsi, dIsi2, dIsC, tyN, isN, d2, d3, oV, oPl, aNil, aCons, aStar, seqOf, argB, argsB, ownPl, nodupB, wb, wb1, dCall, dMeth, oMake, oMake0, dSetFld, res, resAll, bV_val, bV_own, tD_lst, tD_ins, vals, dL, dLV, dTup, dLst, oLst, sz, ofO, leD, ltD, gtD, geD, i0D, iD, truD, isSq, dFz, R.bind, dAsg, gTp, gsCons, gsNil, gNm, dPar, setAll, dAug, dSetIx, isOwn, dApp, dFor, iVals, iRes, iSeq, dSl, pNo, pSome, cutD, dNeg, fdivD, modD, mulA, mulI, absD, intD, max2D, min2D, max3D, min3D, isND, notND, hr, hlen, addD]
end A
end
section
namespace A
open PySem Zd
set_option autoImplicit false
def Inv (S : List Int) (y0 : Option B) (ρ : Zd.Env) : Prop := ∃ n : Int, ∃ y2 y3 y4 y5 y6 y7 y8 y9 y10 y11 y12 y13 y14 y15 y16 y17 y18 y19 y20 y21 y22 y23 : Option B, 0 ≤ n ∧ nw y10 = true ∧ nw y11 = true ∧ nw y14 = true ∧ nw y15 = true ∧ ρ = [y0, drw S n, y2, y3, y4, y5, y6, y7, y8, y9, y10, y11, y12, y13, y14, y15, y16, y17, y18, y19, y20, y21, y22, y23]
theorem turn_ok {S : List Int} {y0 : Option B} (d : D) (ρ : Zd.Env) (hI : Inv S y0 ρ) : ∃ ρ1 ρ2, gNm 2 d ρ = some ρ1 ∧ (dSeq S_law_1 (dSeq S_law_2 (dSeq S_law_3 (dSeq S_law_4 (dSeq S_law_5 (dSeq S_law_6 (dSeq S_law_7 (dSeq S_law_8 (dSeq S_law_9 (dSeq S_law_10 (dSeq S_law_11 (dSeq S_law_12 (dSeq S_law_13 (dSeq S_law_14 (dSeq S_law_15 (dSeq S_law_16 S_law_17)))))))))))))))) ρ1 = .ok (ρ2, .nx) ∧ Inv S y0 ρ2 := by
  obtain ⟨n, y2, y3, y4, y5, y6, y7, y8, y9, y10, y11, y12, y13, y14, y15, y16, y17, y18, y19, y20, y21, y22, y23, hn, w10, w11, w14, w15, rfl⟩ := hI
  obtain ⟨e, m, a, s, h, s0, s3, h1⟩ := st1 (x0 := y0) (x1 := drw S n) (x2 := some (.val d)) (x3 := y3) (x4 := y4) (x5 := y5) (x6 := y6) (x7 := y7) (x8 := y8) (x9 := y9) (x10 := y10) (x11 := y11) (x12 := y12) (x13 := y13) (x14 := y14) (x15 := y15) (x16 := y16) (x17 := y17) (x18 := y18) (x19 := y19) (x20 := y20) (x21 := y21) (x22 := y22) (x23 := y23) (S := S) (n := n) hn
  obtain ⟨n2, L, hn2, hL, hN, l1, l2, h2⟩ := st2 (x0 := y0) (x1 := drw S (n + 1 + 1 + 1 + 1)) (x2 := some (.val d)) (x3 := some (iv e)) (x4 := some (iv m)) (x5 := some (iv a)) (x6 := some (iv s)) (x7 := y7) (x8 := y8) (x9 := y9) (x10 := y10) (x11 := y11) (x12 := y12) (x13 := y13) (x14 := y14) (x15 := y15) (x16 := y16) (x17 := y17) (x18 := y18) (x19 := y19) (x20 := y20) (x21 := y21) (x22 := y22) (x23 := y23) (S := S) (n := n + 1 + 1 + 1 + 1) h s0 s3 (by omega)
  have h3 := st3 (x0 := y0) (x1 := drw S n2) (x2 := some (.val d)) (x3 := some (iv e)) (x4 := some (iv m)) (x5 := some (iv a)) (x6 := some (iv s)) (x7 := some (.val (LK e m a))) (x8 := some (.val (tI L))) (x9 := y9) (x10 := y10) (x11 := y11) (x12 := y12) (x13 := y13) (x14 := y14) (x15 := y15) (x16 := y16) (x17 := y17) (x18 := y18) (x19 := y19) (x20 := y20) (x21 := y21) (x22 := y22) (x23 := y23) (L := L) h hL l1 (by omega)
  have h4 := st4 (x0 := y0) (x1 := drw S n2) (x2 := some (.val d)) (x3 := some (iv e)) (x4 := some (iv m)) (x5 := some (iv a)) (x6 := some (iv s)) (x7 := some (.val (LK e m a))) (x8 := some (.val (tI L))) (x9 := some (.val (tI (rings e m a L)))) (x10 := y10) (x11 := y11) (x12 := y12) (x13 := y13) (x14 := y14) (x15 := y15) (x16 := y16) (x17 := y17) (x18 := y18) (x19 := y19) (x20 := y20) (x21 := y21) (x22 := y22) (x23 := y23) (e := e) (m := m) (a := a) (s := s) (L := L) h hL l1 (by omega) (nw_one rfl w10) (nw_one rfl w11)
  obtain ⟨c, c1, c2, h5⟩ := st5 (x0 := y0) (x1 := drw S n2) (x2 := some (.val d)) (x3 := some (iv e)) (x4 := some (iv m)) (x5 := some (iv a)) (x6 := some (iv s)) (x7 := some (.val (LK e m a))) (x8 := some (.val (tI L))) (x9 := some (.val (tI (rings e m a L)))) (x10 := y10) (x11 := y11) (x12 := y12) (x13 := y13) (x14 := y14) (x15 := y15) (x16 := y16) (x17 := y17) (x18 := y18) (x19 := y19) (x20 := y20) (x21 := y21) (x22 := y22) (x23 := y23) (S := S) (L := L) (n := n2) hn2 l1
  have h6 := st6 (x0 := y0) (x1 := drw S (n2 + 1)) (x2 := some (.val d)) (x3 := some (iv e)) (x4 := some (iv m)) (x5 := some (iv a)) (x6 := some (iv s)) (x7 := some (.val (LK e m a))) (x8 := some (.val (tI L))) (x9 := some (.val (tI (rings e m a L)))) (x10 := y10) (x11 := y11) (x12 := some (iv c)) (x13 := y13) (x14 := y14) (x15 := y15) (x16 := y16) (x17 := y17) (x18 := y18) (x19 := y19) (x20 := y20) (x21 := y21) (x22 := y22) (x23 := y23) (e := e) (m := m) (a := a) (s := s) (L := L) h hL l1 l2 c1 c2 (nw_one rfl w10)
  have h7 := st7 (x0 := y0) (x1 := drw S (n2 + 1)) (x2 := some (.val d)) (x3 := some (iv e)) (x4 := some (iv m)) (x5 := some (iv a)) (x6 := some (iv s)) (x7 := some (.val (LK e m a))) (x8 := some (.val (tI L))) (x9 := some (.val (tI (rings e m a L)))) (x10 := y10) (x11 := y11) (x12 := some (iv c)) (x13 := y13) (x14 := y14) (x15 := y15) (x16 := y16) (x17 := y17) (x18 := y18) (x19 := y19) (x20 := y20) (x21 := y21) (x22 := y22) (x23 := y23) (s := s) (L := L) h hL l1 (by omega)
  have h8 := st8 (x0 := y0) (x1 := drw S (n2 + 1)) (x2 := some (.val d)) (x3 := some (iv e)) (x4 := some (iv m)) (x5 := some (iv a)) (x6 := some (iv s)) (x7 := some (.val (LK e m a))) (x8 := some (.val (tI L))) (x9 := some (.val (tI (rings e m a L)))) (x10 := y10) (x11 := y11) (x12 := some (iv c)) (x13 := some (.val (tI (rings 1 1 a L)))) (x14 := y14) (x15 := y15) (x16 := y16) (x17 := y17) (x18 := y18) (x19 := y19) (x20 := y20) (x21 := y21) (x22 := y22) (x23 := y23) (s := s) (L := L) h hL l1 (by omega) (nw_one rfl w10) (nw_two rfl w14 rfl w15)
  obtain ⟨z10, z16, hz10, h9⟩ := st9 (x0 := y0) (x1 := drw S (n2 + 1)) (x2 := some (.val d)) (x3 := some (iv e)) (x4 := some (iv m)) (x5 := some (iv a)) (x6 := some (iv s)) (x7 := some (.val (LK e m a))) (x8 := some (.val (tI L))) (x9 := some (.val (tI (rings e m a L)))) (x10 := y10) (x11 := y11) (x12 := some (iv c)) (x13 := some (.val (tI (rings 1 1 a L)))) (x14 := y14) (x15 := y15) (x16 := y16) (x17 := y17) (x18 := y18) (x19 := y19) (x20 := y20) (x21 := y21) (x22 := y22) (x23 := y23) (L := L) h hL hN s0 s3 l1 (by omega)
  have w10' : nw z10 = true := by
    rcases hz10 with rfl | ⟨d', rfl⟩
    · exact w10
    · rfl
  obtain ⟨z14, z15, hw, h10⟩ := st10 (x0 := y0) (x1 := drw S (n2 + 1)) (x2 := some (.val d)) (x3 := some (iv e)) (x4 := some (iv m)) (x5 := some (iv a)) (x6 := some (iv s)) (x7 := some (.val (LK e m a))) (x8 := some (.val (tI L))) (x9 := some (.val (tI (rings e m a L)))) (x10 := z10) (x11 := y11) (x12 := some (iv c)) (x13 := some (.val (tI (rings 1 1 a L)))) (x14 := y14) (x15 := y15) (x16 := z16) (x17 := y17) (x18 := y18) (x19 := y19) (x20 := y20) (x21 := y21) (x22 := y22) (x23 := y23) (L := L) h hL hN s0 s3 l1 (by omega) w14 w15 (fun _ _ => nw_one rfl w10')
  have h11 := st11 (x0 := y0) (x1 := drw S (n2 + 1)) (x2 := some (.val d)) (x3 := some (iv e)) (x4 := some (iv m)) (x5 := some (iv a)) (x6 := some (iv s)) (x7 := some (.val (LK e m a))) (x8 := some (.val (tI L))) (x9 := some (.val (tI (rings e m a L)))) (x10 := z10) (x11 := y11) (x12 := some (iv c)) (x13 := some (.val (tI (rings 1 1 a L)))) (x14 := z14) (x15 := z15) (x16 := z16) (x17 := y17) (x18 := y18) (x19 := y19) (x20 := y20) (x21 := y21) (x22 := y22) (x23 := y23) (e := e) (m := m) (a := a) (s := s) h s0 s3
  obtain ⟨z17, h12⟩ := st12 (x0 := y0) (x1 := drw S (n2 + 1)) (x2 := some (.val d)) (x3 := some (iv e)) (x4 := some (iv m)) (x5 := some (iv a)) (x6 := some (iv s)) (x7 := some (.val (LK e m a))) (x8 := some (.val (tI L))) (x9 := some (.val (tI (rings e m a L)))) (x10 := z10) (x11 := y11) (x12 := some (iv c)) (x13 := some (.val (tI (rings 1 1 a L)))) (x14 := z14) (x15 := z15) (x16 := z16) (x17 := y17) (x18 := y18) (x19 := y19) (x20 := y20) (x21 := y21) (x22 := y22) (x23 := y23) (e := e) (m := m) (a := a) (s := s) h s0 s3
  obtain ⟨z18, h13⟩ := st13 (x0 := y0) (x1 := drw S (n2 + 1)) (x2 := some (.val d)) (x3 := some (iv e)) (x4 := some (iv m)) (x5 := some (iv a)) (x6 := some (iv s)) (x7 := some (.val (LK e m a))) (x8 := some (.val (tI L))) (x9 := some (.val (tI (rings e m a L)))) (x10 := z10) (x11 := y11) (x12 := some (iv c)) (x13 := some (.val (tI (rings 1 1 a L)))) (x14 := z14) (x15 := z15) (x16 := z16) (x17 := z17) (x18 := y18) (x19 := y19) (x20 := y20) (x21 := y21) (x22 := y22) (x23 := y23) (e := e) (m := m) (a := a) (s := s) h s0 s3
  have h14 := st14 (x0 := y0) (x1 := drw S (n2 + 1)) (x2 := some (.val d)) (x3 := some (iv e)) (x4 := some (iv m)) (x5 := some (iv a)) (x6 := some (iv s)) (x7 := some (.val (LK e m a))) (x8 := some (.val (tI L))) (x9 := some (.val (tI (rings e m a L)))) (x10 := z10) (x11 := y11) (x12 := some (iv c)) (x13 := some (.val (tI (rings 1 1 a L)))) (x14 := z14) (x15 := z15) (x16 := z16) (x17 := z17) (x18 := z18) (x19 := y19) (x20 := y20) (x21 := y21) (x22 := y22) (x23 := y23) h.m1 h.m4 h.a0 h.a8 s0 s3
  have h15 := st15 (x0 := y0) (x1 := drw S (n2 + 1)) (x2 := some (.val d)) (x3 := some (iv e)) (x4 := some (iv m)) (x5 := some (iv a)) (x6 := some (iv s)) (x7 := some (.val (LK e m a))) (x8 := some (.val (tI L))) (x9 := some (.val (tI (rings e m a L)))) (x10 := z10) (x11 := y11) (x12 := some (iv c)) (x13 := some (.val (tI (rings 1 1 a L)))) (x14 := z14) (x15 := z15) (x16 := z16) (x17 := z17) (x18 := z18) (x19 := some (iv (if m ≤ 1 ∨ s = 0 then 6 else 1))) (x20 := y20) (x21 := y21) (x22 := y22) (x23 := y23) h.m1 h.m4 h.a0 h.a8 s0 s3
  have h16 := st16 (x0 := y0) (x1 := drw S (n2 + 1)) (x2 := some (.val d)) (x3 := some (iv e)) (x4 := some (iv m)) (x5 := some (iv a)) (x6 := some (iv s)) (x7 := some (.val (LK e m a))) (x8 := some (.val (tI L))) (x9 := some (.val (tI (rings e m a L)))) (x10 := z10) (x11 := y11) (x12 := some (iv c)) (x13 := some (.val (tI (rings 1 1 a L)))) (x14 := z14) (x15 := z15) (x16 := z16) (x17 := z17) (x18 := z18) (x19 := some (iv (if m ≤ 1 ∨ s = 0 then 6 else 1))) (x20 := y20) (x21 := y21) (x22 := y22) (x23 := y23) (e := e) (m := m) (a := a) (s := s) h s0 s3
  have h17 := st17 (x0 := y0) (x1 := drw S (n2 + 1)) (x2 := some (.val d)) (x3 := some (iv e)) (x4 := some (iv m)) (x5 := some (iv a)) (x6 := some (iv s)) (x7 := some (.val (LK e m a))) (x8 := some (.val (tI L))) (x9 := some (.val (tI (rings e m a L)))) (x10 := z10) (x11 := y11) (x12 := some (iv c)) (x13 := some (.val (tI (rings 1 1 a L)))) (x14 := z14) (x15 := z15) (x16 := z16) (x17 := z17) (x18 := z18) (x19 := some (iv (if m ≤ 1 ∨ s = 0 then 6 else 1))) (x20 := some (.val (.ins 5 [tI (toldI e m a s)]))) (x21 := y21) (x22 := y22) (x23 := y23) (e := e) (m := m) (a := a) (s := s) h s0 s3
  refine ⟨[y0, drw S n, some (.val d), y3, y4, y5, y6, y7, y8, y9, y10, y11, y12, y13, y14, y15, y16, y17, y18, y19, y20, y21, y22, y23], [y0, drw S (n2 + 1), some (.val d), some (iv e), some (iv m), some (iv a), some (iv s), some (.val (LK e m a)), some (.val (tI L)), some (.val (tI (rings e m a L))), z10, y11, some (iv c), some (.val (tI (rings 1 1 a L))), z14, z15, z16, z17, z18, some (iv (if m ≤ 1 ∨ s = 0 then 6 else 1)), some (.val (.ins 5 [tI (toldI e m a s)])), y21, y22, y23], by simp [gNm], ?_, n2 + 1, some (.val d), some (iv e), some (iv m), some (iv a), some (iv s), some (.val (LK e m a)), some (.val (tI L)), some (.val (tI (rings e m a L))), z10, y11, some (iv c), some (.val (tI (rings 1 1 a L))), z14, z15, z16, z17, z18, some (iv (if m ≤ 1 ∨ s = 0 then 6 else 1)), some (.val (.ins 5 [tI (toldI e m a s)])), y21, y22, y23, by omega, w10', w11, hw.1, hw.2, rfl⟩
  rw [seq_nx h1, seq_nx h2, seq_nx h3, seq_nx h4, seq_nx h5, seq_nx h6, seq_nx h7, seq_nx h8, seq_nx h9, seq_nx h10, seq_nx h11, seq_nx h12, seq_nx h13, seq_nx h14, seq_nx h15, seq_nx h16]
  exact h17
theorem st18 {S : List Int} {y0 : Option B} (ρ : Zd.Env) (hI : Inv S y0 ρ) : ∃ ρ2, S_law_18 ρ = .ok (ρ2, .nx) ∧ Inv S y0 ρ2 := by
  obtain ⟨ρ2, h1, h2⟩ := fl_inv (g := gNm 2) (body := (dSeq S_law_1 (dSeq S_law_2 (dSeq S_law_3 (dSeq S_law_4 (dSeq S_law_5 (dSeq S_law_6 (dSeq S_law_7 (dSeq S_law_8 (dSeq S_law_9 (dSeq S_law_10 (dSeq S_law_11 (dSeq S_law_12 (dSeq S_law_13 (dSeq S_law_14 (dSeq S_law_15 (dSeq S_law_16 S_law_17))))))))))))))))) (Inv S y0) (rngL 0 1 5) (fun d _ ρ hI => turn_ok d ρ hI) ρ hI
  refine ⟨ρ2, ?_, h2⟩
  rw [← h1]
  have hr : rng1 [.int 5] = some (rngL 0 1 5) := rfl
  unfold S_law_18 dFor
  generalize rngL 0 1 5 = RR at hr
  simp only [iRes, aCons, aNil, oV, dC, R.bind, resAll, res, Option.bind_some, hr, ofO]
end A
end
section
namespace A
open PySem Zd
set_option autoImplicit false
/-! ### queues of one letter -/
abbrev QU (κ : PySem.Str) (r : Int) (h : Nat) : D := .ins 0 [.str κ, .int r, .tup (List.replicate h (.int 4))]
def isK (κ : PySem.Str) : Prop := κ = "row" ∨ κ = "heap"
theorem q_full {κ : PySem.Str} {r : Int} {h : Nat} (hh : h ≤ 9) : F_Queue_is_full [.val (QU κ r h)] = .ok [none] (.bl (decide ((h : Int) = r))) := by
  have q1 := eq_int
  have hlen : lenD [.tup (List.replicate h (.int 4))] = some (.int h) := by simp [lenD, isSq]
  unfold QU
  generalize (D.tup (List.replicate h (.int 4))) = T at *
  simp [cfOf, startE, fin_, outsOf, retag, findTag, dRet, dSeq, dEnd, dNever, dIte, dIf, dDrop, dFld, dSet, toB, dC, dName, dBl, dNot, dAnd, dOr, tAndD, tOrD, tNotD, dTru, dBoolC, boolD, dIsi, dIsi2, dIsC, tyN, isN, d2, d3, oV, oPl, aNil, aCons, aStar, seqOf, argB, argsB, ownPl, nodupB, wb, wb1, dCall, dMeth, oMake, oMake0, dSetFld, res, resAll, bV_val, bV_own, tD_lst, tD_ins, vals, dL, dLV, dTup, dLst, oLst, sz, ofO, leD, ltD, gtD, geD, i0D, iD, truD, isSq, dFz, R.bind, dAsg, gTp, gsCons, gsNil, gNm, dPar, setAll, dAug, dSetIx, isOwn, dApp, dFor, iVals, iRes, iSeq, dSl, pNo, pSome, cutD, dNeg, fdivD, modD, mulA, mulI, absD, intD, max2D, min2D, max3D, min3D, isND, notND, F_Queue_is_full, D_Queue_is_full, fp_letters, fp_room, hlen, q1]
theorem q_nexts {κ : PySem.Str} {r : Int} {h : Nat} (hk : isK κ) (hh : h + 1 ≤ 9) : F_Queue_nexts [.val (QU κ r (h + 1))] = .ok [none] (.tup [.int 4]) := by
  have : h = 0 ∨ h = 1 ∨ h = 2 ∨ h = 3 ∨ h = 4 ∨ h = 5 ∨ h = 6 ∨ h = 7 ∨ h = 8 := by omega
  rcases hk with rfl | rfl <;> rcases this with rfl | rfl | rfl | rfl | rfl | rfl | rfl | rfl | rfl <;> kernel_rfl
theorem q_new {κ : PySem.Str} {r : Int} (t : Nat) (hk : isK κ) (r0 : 0 ≤ r) (r9 : r ≤ 9) : F_Queuedd_initdd [.own t (.ins 0 []), .val (.str κ), iv r, .val (.tup [])] = .ok [some (.ins 0 [.str κ, .int r, .tup []]), none, none, none] .non := by
  have : r = 0 ∨ r = 1 ∨ r = 2 ∨ r = 3 ∨ r = 4 ∨ r = 5 ∨ r = 6 ∨ r = 7 ∨ r = 8 ∨ r = 9 := by omega
  rcases hk with rfl | rfl <;> rcases this with rfl | rfl | rfl | rfl | rfl | rfl | rfl | rfl | rfl | rfl <;> kernel_rfl
theorem q_put {κ : PySem.Str} {r : Int} {h : Nat} (hk : isK κ) (hr : (h : Int) < r) (r9 : r ≤ 9) : F_Queue_put [.val (QU κ r h), iv 4] = .ok [none, none] (QU κ r (h + 1)) := by
  have : r = 1 ∨ r = 2 ∨ r = 3 ∨ r = 4 ∨ r = 5 ∨ r = 6 ∨ r = 7 ∨ r = 8 ∨ r = 9 := by omega
  rcases hk with rfl | rfl <;> rcases this with rfl | rfl | rfl | rfl | rfl | rfl | rfl | rfl | rfl <;>
    (have : h = 0 ∨ h = 1 ∨ h = 2 ∨ h = 3 ∨ h = 4 ∨ h = 5 ∨ h = 6 ∨ h = 7 ∨ h = 8 := by omega) <;>
    rcases this with rfl | rfl | rfl | rfl | rfl | rfl | rfl | rfl | rfl <;> first | (exfalso; omega) | kernel_rfl
theorem q_take {κ : PySem.Str} {r : Int} {h : Nat} (hk : isK κ) (hr : (h : Int) < r) (r9 : r ≤ 9) : F_Queue_take [.val (QU κ r (h + 1)), iv 4] = .ok [none, none] (QU κ r h) := by
  have : r = 1 ∨ r = 2 ∨ r = 3 ∨ r = 4 ∨ r = 5 ∨ r = 6 ∨ r = 7 ∨ r = 8 ∨ r = 9 := by omega
  rcases hk with rfl | rfl <;> rcases this with rfl | rfl | rfl | rfl | rfl | rfl | rfl | rfl | rfl <;>
    (have : h = 0 ∨ h = 1 ∨ h = 2 ∨ h = 3 ∨ h = 4 ∨ h = 5 ∨ h = 6 ∨ h = 7 ∨ h = 8 := by omega) <;>
    rcases this with rfl | rfl | rfl | rfl | rfl | rfl | rfl | rfl | rfl <;> first | (exfalso; omega) | kernel_rfl
end A
end
section
namespace A
open PySem Zd
set_option autoImplicit false
/-! ### moves: puts and takes of one letter -/
def mv (b : Bool) : D := if b then .tup [.str "in", .int 4] else .tup [.str "out", .int 4]
def hts : Nat → List Bool → List Int
  | _, [] => []
  | h, true :: bs => ((h + 1 : Nat) : Int) :: hts (h + 1) bs
  | h, false :: bs => ((h - 1 : Nat) : Int) :: hts (h - 1) bs
def Gd : Nat → List Bool → Prop
  | _, [] => True
  | h, true :: bs => h < 9 ∧ Gd (h + 1) bs
  | h, false :: bs => 1 ≤ h ∧ Gd (h - 1) bs
def hend : Nat → List Bool → Nat
  | h, [] => h
  | h, true :: bs => hend (h + 1) bs
  | h, false :: bs => hend (h - 1) bs
theorem gd_put : ∀ (bs : List Bool) (h : Nat), Gd h bs → hend h bs < 9 → Gd h (bs ++ [true]) ∧ hend h (bs ++ [true]) = hend h bs + 1
  | [], h, _, h2 => ⟨⟨h2, trivial⟩, rfl⟩
  | true :: bs, h, h1, h2 => by
    have := gd_put bs (h + 1) h1.2 h2
    exact ⟨⟨h1.1, this.1⟩, this.2⟩
  | false :: bs, h, h1, h2 => by
    have := gd_put bs (h - 1) h1.2 h2
    exact ⟨⟨h1.1, this.1⟩, this.2⟩
theorem gd_take : ∀ (bs : List Bool) (h : Nat), Gd h bs → 1 ≤ hend h bs → Gd h (bs ++ [false]) ∧ hend h (bs ++ [false]) = hend h bs - 1
  | [], h, _, h2 => ⟨⟨h2, trivial⟩, rfl⟩
  | true :: bs, h, h1, h2 => by
    have := gd_take bs (h + 1) h1.2 h2
    exact ⟨⟨h1.1, this.1⟩, this.2⟩
  | false :: bs, h, h1, h2 => by
    have := gd_take bs (h - 1) h1.2 h2
    exact ⟨⟨h1.1, this.1⟩, this.2⟩
theorem hend_le : ∀ (bs : List Bool) (h : Nat), h ≤ 9 → Gd h bs → hend h bs ≤ 9
  | [], h, h0, _ => h0
  | true :: bs, h, h0, h1 => hend_le bs (h + 1) (by have := h1.1; omega) h1.2
  | false :: bs, h, h0, h1 => hend_le bs (h - 1) (by omega) h1.2
theorem hts_nine : ∀ (bs : List Bool) (h : Nat), h ≤ 9 → Gd h bs → InNine (hts h bs)
  | [], h, _, _ => fun z hz => by cases hz
  | true :: bs, h, h0, h1 => fun z hz => by
    have hh := h1.1
    rcases List.mem_cons.mp hz with rfl | hz
    · omega
    · exact hts_nine bs (h + 1) (by omega) h1.2 z hz
  | false :: bs, h, h0, h1 => fun z hz => by
    rcases List.mem_cons.mp hz with rfl | hz
    · omega
    · exact hts_nine bs (h - 1) (by omega) h1.2 z hz
theorem hts_len : ∀ (bs : List Bool) (h : Nat), (hts h bs).length = bs.length
  | [], _ => rfl
  | true :: bs, h => by simp [hts, hts_len bs]
  | false :: bs, h => by simp [hts, hts_len bs]
theorem hts_near : ∀ (bs : List Bool) (h : Nat), Gd h bs → nearB 1 ((h : Int) :: hts h bs) = true
  | [], h, _ => rfl
  | true :: bs, h, h1 => by
    have ih := hts_near bs (h + 1) h1.2
    have e : nearB 1 ((h : Int) :: hts h (true :: bs)) = (decide ((if ((h + 1 : Nat) : Int) - (h : Int) < 0 then -(((h + 1 : Nat) : Int) - (h : Int)) else ((h + 1 : Nat) : Int) - (h : Int)) ≤ 1) && nearB 1 (((h + 1 : Nat) : Int) :: hts (h + 1) bs)) := by
      simp [nearB, prs, hts]
    rw [e, ih, Bool.and_true, decide_eq_true_iff]
    rw [if_neg (by omega)]; omega
  | false :: bs, h, h1 => by
    have ih := hts_near bs (h - 1) h1.2
    have hh := h1.1
    have e : nearB 1 ((h : Int) :: hts h (false :: bs)) = (decide ((if ((h - 1 : Nat) : Int) - (h : Int) < 0 then -(((h - 1 : Nat) : Int) - (h : Int)) else ((h - 1 : Nat) : Int) - (h : Int)) ≤ 1) && nearB 1 (((h - 1 : Nat) : Int) :: hts (h - 1) bs)) := by
      simp [nearB, prs, hts]
    rw [e, ih, Bool.and_true, decide_eq_true_iff]
    rw [if_pos (by omega)]; omega
theorem f_is_move (b : Bool) : F_is_queue_move [.val (mv b)] = .ok [none] (.bl true) := by cases b <;> kernel_rfl
theorem loop_chk : ∀ (bs : List Bool) (k : Nat) (x y : Option B) (s : D),
    ∃ x' y', fl (gTp (gsCons (gNm 1) (gsCons (gNm 2) gsNil))) (dIte (tNotD (dTru M_bool (oV (dCall F_is_queue_move (aCons (oPl 2) aNil))))) dNever (dEnd .nx)) (enumD k (bs.map mv)) [some (.val s), x, y] = .ok ([some (.val s), x', y'], .nx)
  | [], k, x, y, s => ⟨x, y, by simp [cfOf, startE, fin_, outsOf, retag, findTag, dRet, dSeq, dEnd, dNever, dIte, dIf, dDrop, dFld, dSet, toB, dC, dName, dBl, dNot, dAnd, dOr, tAndD, tOrD, tNotD, dTru, dBoolC, boolD, dIsi, dIsi2, dIsC, tyN, isN, d2, d3, oV, oPl, aNil, aCons, aStar, seqOf, argB, argsB, ownPl, nodupB, wb, wb1, dCall, dMeth, oMake, oMake0, dSetFld, res, resAll, bV_val, bV_own, tD_lst, tD_ins, vals, dL, dLV, dTup, dLst, oLst, sz, ofO, leD, ltD, gtD, geD, i0D, iD, truD, isSq, lenD, dFz, R.bind, dAsg, gTp, gsCons, gsNil, gNm, dPar, setAll, dAug, dSetIx, isOwn, dApp, dFor, iVals, iRes, iSeq, dSl, pNo, pSome, cutD, dNeg, fdivD, modD, powD, mulA, mulI, addD, absD, intD, max2D, min2D, max3D, min3D, isND, notND, fl, enumD]⟩
  | b :: bs, k, x, y, s => by
    obtain ⟨x', y', ih⟩ := loop_chk bs (k + 1) (some (.val (.int k))) (some (.val (mv b))) s
    have hm := f_is_move b
    refine ⟨x', y', ?_⟩
    rw [← ih]
    simp [cfOf, startE, fin_, outsOf, retag, findTag, dRet, dSeq, dEnd, dNever, dIte, dIf, dDrop, dFld, dSet, toB, dC, dName, dBl, dNot, dAnd, dOr, tAndD, tOrD, tNotD, dTru, dBoolC, boolD, dIsi, dIsi2, dIsC, tyN, isN, d2, d3, oV, oPl, aNil, aCons, aStar, seqOf, argB, argsB, ownPl, nodupB, wb, wb1, dCall, dMeth, oMake, oMake0, dSetFld, res, resAll, bV_val, bV_own, tD_lst, tD_ins, vals, dL, dLV, dTup, dLst, oLst, sz, ofO, leD, ltD, gtD, geD, i0D, iD, truD, isSq, lenD, dFz, R.bind, dAsg, gTp, gsCons, gsNil, gNm, dPar, setAll, dAug, dSetIx, isOwn, dApp, dFor, iVals, iRes, iSeq, dSl, pNo, pSome, cutD, dNeg, fdivD, modD, powD, mulA, mulI, addD, absD, intD, max2D, min2D, max3D, min3D, isND, notND, fl, enumD, hm]
abbrev mT (bs : List Bool) : D := .tup (bs.map mv)
theorem f_chk {bs : List Bool} (h : bs.length ≤ 40) : F_check_moves [.val (mT bs)] = .ok [none] .non := by
  obtain ⟨x', y', e⟩ := loop_chk bs 0 none none (mT bs)
  have a2 : ¬ (40 : Int) < bs.length := by omega
  have hr := f_is_row_t (bs.map mv)
  have hlen : lenD [mT bs] = some (.int bs.length) := by simp [lenD, isSq, mT]
  have he : enum1 [mT bs] = some (enumD 0 (bs.map mv)) := rfl
  change F_is_row [.val (mT bs)] = _ at hr
  generalize enumD 0 (bs.map mv) = EE at e he
  generalize mT bs = TB at *
  simp [cfOf, startE, fin_, outsOf, retag, findTag, dRet, dSeq, dEnd, dNever, dIte, dIf, dDrop, dFld, dSet, toB, dC, dName, dBl, dNot, dAnd, dOr, tAndD, tOrD, tNotD, dTru, dBoolC, boolD, dIsi, dIsi2, dIsC, tyN, isN, d2, d3, oV, oPl, aNil, aCons, aStar, seqOf, argB, argsB, ownPl, nodupB, wb, wb1, dCall, dMeth, oMake, oMake0, dSetFld, res, resAll, bV_val, bV_own, tD_lst, tD_ins, vals, dL, dLV, dTup, dLst, oLst, sz, ofO, leD, ltD, gtD, geD, i0D, iD, truD, isSq, dFz, R.bind, dAsg, gTp, gsCons, gsNil, gNm, dPar, setAll, dAug, dSetIx, isOwn, dApp, dFor, iVals, iRes, iSeq, dSl, pNo, pSome, cutD, dNeg, fdivD, modD, mulA, mulI, absD, intD, max2D, min2D, max3D, min3D, isND, notND, F_check_moves, D_check_moves, hr, hlen, he, vv_MOST_MOVES, a2]
  rw [e]
theorem f_chq {κ : PySem.Str} {r : Int} (hk : isK κ) (r0 : 0 ≤ r) (r9 : r ≤ 9) : F_check_queue [.val (.str κ), iv r] = .ok [none, none] .non := by
  have : r = 0 ∨ r = 1 ∨ r = 2 ∨ r = 3 ∨ r = 4 ∨ r = 5 ∨ r = 6 ∨ r = 7 ∨ r = 8 ∨ r = 9 := by omega
  rcases hk with rfl | rfl <;> rcases this with rfl | rfl | rfl | rfl | rfl | rfl | rfl | rfl | rfl | rfl <;> kernel_rfl
theorem e_ii : eqD (.str "in") (.str "in") = some (.bl true) := by kernel_rfl
theorem e_io : eqD (.str "in") (.str "out") = some (.bl false) := by kernel_rfl
theorem e_oi : eqD (.str "out") (.str "in") = some (.bl false) := by kernel_rfl
theorem e_oo : eqD (.str "out") (.str "out") = some (.bl true) := by kernel_rfl
theorem in_44 : inD true (.int 4) (.tup [.int 4]) = some (.bl false) := by kernel_rfl
theorem loop_lb {κ : PySem.Str} {ms : D} (hk : isK κ) : ∀ (bs : List Bool) (h k : Nat) (F : List Int) (x5 x6 x7 : Option B), h ≤ 9 → Gd h bs → F.length + bs.length ≤ 100 → ∃ (q : D) (x5' x6' x7' : Option B),
    fl (gTp (gsCons (gNm 5) (gsCons (gTp (gsCons (gNm 6) (gsCons (gNm 7) gsNil))) gsNil)))
      (dSeq (dIte (tOrD (tAndD (dBl (d2 eqD (oPl 6) (oV (dC (.str "in"))))) (dTru M_bool (oV (dMeth M_is_full (oPl 3) aNil)))) (tAndD (dBl (d2 eqD (oPl 6) (oV (dC (.str "out"))))) (dBl (d2 (inD true) (oPl 7) (oV (dMeth M_nexts (oPl 3) aNil)))))) dNever (dEnd .nx))
      (dSeq (dSet 3 (oV (dIf (dBl (d2 eqD (oPl 6) (oV (dC (.str "in"))))) (dMeth M_put (oPl 3) (aCons (oPl 7) aNil)) (dMeth M_take (oPl 3) (aCons (oPl 7) aNil)))))
      (dApp 4 (dL lenD (aCons (oV (dFld fp_letters (oPl 3))) aNil)))))
      (enumD k (bs.map mv)) [some (.val (.str κ)), some (iv 9), some (.val ms), some (.val (QU κ 9 h)), some (.own 0 (.lst (F.map D.int))), x5, x6, x7] =
    .ok ([some (.val (.str κ)), some (iv 9), some (.val ms), some (.val q), some (.own 0 (.lst ((F ++ hts h bs).map D.int))), x5', x6', x7'], .nx)
  | [], h, k, F, x5, x6, x7, _, _, _ => ⟨QU κ 9 h, x5, x6, x7, by simp [fl, enumD, hts]⟩
  | true :: bs, h, k, F, x5, x6, x7, h9, hg, hl => by
    have hh := hg.1
    simp only [List.length_cons] at hl
    obtain ⟨q, x5', x6', x7', ih⟩ := loop_lb (ms := ms) hk bs (h + 1) (k + 1) (F ++ [((h + 1 : Nat) : Int)]) (some (iv k)) (some (.val (.str "in"))) (some (iv 4)) (by omega) hg.2 (by simp only [List.length_append, List.length_cons, List.length_nil]; omega)
    refine ⟨q, x5', x6', x7', ?_⟩
    have e : F ++ hts h (true :: bs) = F ++ [((h + 1 : Nat) : Int)] ++ hts (h + 1) bs := by simp [hts]
    rw [e, ← ih]
    have q1 := q_full (κ := κ) (r := 9) h9
    have hne : ¬ (h : Int) = 9 := by omega
    simp only [decide_eq_false hne] at q1
    have q2 := q_put (κ := κ) (r := 9) (h := h) hk (by omega) (by omega)
    have hlen : lenD [.tup (List.replicate (h + 1) (.int 4))] = some (.int ((h + 1 : Nat) : Int)) := by simp [lenD, isSq]
    have hsz : F.length + 1 ≤ 1000000 := by omega
    have ef : M_is_full 0 = some F_Queue_is_full := rfl
    have ep : M_put 0 = some F_Queue_put := rfl
    have emv : mv true = .tup [.str "in", .int 4] := rfl
    unfold QU at *
    generalize ((h + 1 : Nat) : Int) = hp at *
    generalize (D.tup (List.replicate (h + 1) (.int 4))) = T1 at *
    generalize (D.tup (List.replicate h (.int 4))) = T0 at *
    simp only [List.map_cons, enumD, fl, emv]
    simp [cfOf, startE, fin_, outsOf, retag, findTag, dRet, dSeq, dEnd, dNever, dIte, dIf, dDrop, dFld, dSet, toB, dC, dName, dBl, dNot, dAnd, dOr, tAndD, tOrD, tNotD, dTru, dBoolC, boolD, dIsi, dIsi2, dIsC, tyN, isN, d2, d3, oV, oPl, aNil, aCons, aStar, seqOf, argB, argsB, ownPl, nodupB, wb, wb1, dCall, dMeth, oMake, oMake0, dSetFld, res, resAll, bV_val, bV_own, tD_lst, tD_ins, vals, dL, dLV, dTup, dLst, oLst, sz, ofO, leD, ltD, gtD, geD, i0D, iD, truD, isSq, dFz, R.bind, dAsg, gTp, gsCons, gsNil, gNm, dPar, setAll, dAug, dSetIx, isOwn, dApp, dFor, iVals, iRes, iSeq, dSl, pNo, pSome, cutD, dNeg, fdivD, modD, mulA, mulI, absD, intD, max2D, min2D, max3D, min3D, isND, notND, e_ii, e_io, q1, q2, ef, ep, hlen, fp_letters, hsz]
  | false :: bs, h, k, F, x5, x6, x7, h9, hg, hl => by
    obtain ⟨h', rfl⟩ : ∃ h' : Nat, h = h' + 1 := ⟨h - 1, by have := hg.1; omega⟩
    have hg2 : Gd h' bs := by simpa using hg.2
    simp only [List.length_cons] at hl
    obtain ⟨q, x5', x6', x7', ih⟩ := loop_lb (ms := ms) hk bs h' (k + 1) (F ++ [((h' : Nat) : Int)]) (some (iv k)) (some (.val (.str "out"))) (some (iv 4)) (by omega) hg2 (by simp only [List.length_append, List.length_cons, List.length_nil]; omega)
    refine ⟨q, x5', x6', x7', ?_⟩
    have e : F ++ hts (h' + 1) (false :: bs) = F ++ [((h' : Nat) : Int)] ++ hts h' bs := by simp [hts]
    rw [e, ← ih]
    have q1 := q_nexts (κ := κ) (r := 9) (h := h') hk h9
    have q2 := q_take (κ := κ) (r := 9) (h := h') hk (by omega) (by omega)
    have hlen : lenD [.tup (List.replicate h' (.int 4))] = some (.int ((h' : Nat) : Int)) := by simp [lenD, isSq]
    have hsz : F.length + 1 ≤ 1000000 := by omega
    have ef : M_nexts 0 = some F_Queue_nexts := rfl
    have ep : M_take 0 = some F_Queue_take := rfl
    have emv : mv false = .tup [.str "out", .int 4] := rfl
    unfold QU at *
    generalize ((h' : Nat) : Int) = hp at *
    generalize (D.tup (List.replicate (h' + 1) (.int 4))) = T1 at *
    generalize (D.tup (List.replicate h' (.int 4))) = T0 at *
    simp only [List.map_cons, enumD, fl, emv]
    simp [cfOf, startE, fin_, outsOf, retag, findTag, dRet, dSeq, dEnd, dNever, dIte, dIf, dDrop, dFld, dSet, toB, dC, dName, dBl, dNot, dAnd, dOr, tAndD, tOrD, tNotD, dTru, dBoolC, boolD, dIsi, dIsi2, dIsC, tyN, isN, d2, d3, oV, oPl, aNil, aCons, aStar, seqOf, argB, argsB, ownPl, nodupB, wb, wb1, dCall, dMeth, oMake, oMake0, dSetFld, res, resAll, bV_val, bV_own, tD_lst, tD_ins, vals, dL, dLV, dTup, dLst, oLst, sz, ofO, leD, ltD, gtD, geD, i0D, iD, truD, isSq, dFz, R.bind, dAsg, gTp, gsCons, gsNil, gNm, dPar, setAll, dAug, dSetIx, isOwn, dApp, dFor, iVals, iRes, iSeq, dSl, pNo, pSome, cutD, dNeg, fdivD, modD, mulA, mulI, absD, intD, max2D, min2D, max3D, min3D, isND, notND, e_oi, e_oo, q1, q2, ef, ep, hlen, fp_letters, hsz, in_44]
theorem f_lb {κ : PySem.Str} {bs : List Bool} (hk : isK κ) (hg : Gd 0 bs) (hl : bs.length ≤ 40) : F_lengths_behind [.val (.str κ), iv 9, .val (mT bs)] = .ok [none, none, none] (tI (0 :: hts 0 bs)) := by
  obtain ⟨q, x5, x6, x7, e⟩ := loop_lb (ms := mT bs) hk bs 0 0 [0] none none none (by omega) hg (by simp; omega)
  have h1 := f_chk hl
  have h2 := f_chq (r := 9) hk (by omega) (by omega)
  have h3 := q_new (r := 9) 0 hk (by omega) (by omega)
  have he : enum1 [mT bs] = some (enumD 0 (bs.map mv)) := rfl
  have ht : tupleD [.lst (([0] ++ hts 0 bs).map D.int)] = some (tI (0 :: hts 0 bs)) := rfl
  generalize tI (0 :: hts 0 bs) = TR at *
  generalize ([0] ++ hts 0 bs).map D.int = Q at *
  generalize enumD 0 (bs.map mv) = EE at *
  generalize mT bs = TB at *
  simp only [List.map_cons, List.map_nil, QU, List.replicate_zero] at e
  simp [cfOf, startE, fin_, outsOf, retag, findTag, dRet, dSeq, dEnd, dNever, dIte, dIf, dDrop, dFld, dSet, toB, dC, dName, dBl, dNot, dAnd, dOr, tAndD, tOrD, tNotD, dTru, dBoolC, boolD, dIsi, dIsi2, dIsC, tyN, isN, d2, d3, oV, oPl, aNil, aCons, aStar, seqOf, argB, argsB, ownPl, nodupB, wb, wb1, dCall, dMeth, oMake, oMake0, dSetFld, res, resAll, bV_val, bV_own, tD_lst, tD_ins, vals, dL, dLV, dTup, dLst, oLst, sz, ofO, leD, ltD, gtD, geD, i0D, iD, truD, isSq, dFz, R.bind, dAsg, gTp, gsCons, gsNil, gNm, dPar, setAll, dAug, dSetIx, isOwn, dApp, dFor, iVals, iRes, iSeq, dSl, pNo, pSome, cutD, dNeg, fdivD, modD, mulA, mulI, absD, intD, max2D, min2D, max3D, min3D, isND, notND, F_lengths_behind, D_lengths_behind, h1, h2, h3, he, e, ht]
end A
end
section
namespace A
open PySem Zd
set_option autoImplicit false
def allLe (r : Int) (L : List Int) : Bool := L.all fun z => decide (z ≤ r)
theorem f_stuck (t : Nat) (k : Int) (w : PySem.Str) : F_Stuckdd_initdd [.own t (.ins 2 []), iv k, .val (.str w)] = .ok [some (.ins 2 [.int k, .str w]), none, none] .non := by
  simp [cfOf, startE, fin_, outsOf, retag, findTag, dRet, dSeq, dEnd, dNever, dIte, dIf, dDrop, dFld, dSet, toB, dC, dName, dBl, dNot, dAnd, dOr, tAndD, tOrD, tNotD, dTru, dBoolC, boolD, dIsi, dIsi2, dIsC, tyN, isN, d2, d3, oV, oPl, aNil, aCons, aStar, seqOf, argB, argsB, ownPl, nodupB, wb, wb1, dCall, dMeth, oMake, oMake0, dSetFld, res, resAll, bV_val, bV_own, tD_lst, tD_ins, vals, dL, dLV, dTup, dLst, oLst, sz, ofO, leD, ltD, gtD, geD, i0D, iD, truD, isSq, lenD, dFz, R.bind, dAsg, gTp, gsCons, gsNil, gNm, dPar, setAll, dAug, dSetIx, isOwn, dApp, dFor, iVals, iRes, iSeq, dSl, pNo, pSome, cutD, dNeg, fdivD, modD, powD, mulA, mulI, addD, absD, intD, max2D, min2D, max3D, min3D, isND, notND, F_Stuckdd_initdd, D_Stuckdd_initdd, fp_place, fp_why]
theorem loop_jm {ms : D} {r : Int} (r0 : 0 ≤ r) (r9 : r ≤ 9) : ∀ (bs : List Bool) (h k : Nat) (x4 x5 x6 : Option B), (h : Int) ≤ r → Gd h bs → ∃ (ρ : Zd.Env) (q : D) (x4' x5' x6' : Option B) (xs : List D),
    fl (gTp (gsCons (gNm 4) (gsCons (gTp (gsCons (gNm 5) (gsCons (gNm 6) gsNil))) gsNil)))
      (dSeq (dIte (tAndD (dBl (d2 eqD (oPl 5) (oV (dC (.str "in"))))) (dTru M_bool (oV (dMeth M_is_full (oPl 3) aNil)))) (dRet (dFz (oMake 2 F_Stuckdd_initdd (aCons (oPl 4) (aCons (oV (dC (.str "full"))) aNil))))) (dEnd .nx))
      (dSeq (dIte (tAndD (dBl (d2 eqD (oPl 5) (oV (dC (.str "out"))))) (dBl (d2 (inD true) (oPl 6) (oV (dMeth M_nexts (oPl 3) aNil))))) (dRet (dFz (oMake 2 F_Stuckdd_initdd (aCons (oPl 4) (aCons (oV (dIf (dBl (d2 (inD false) (oPl 6) (oV (dFld fp_letters (oPl 3))))) (dC (.str "order")) (dC (.str "none")))) aNil))))) (dEnd .nx))
      (dSet 3 (oV (dIf (dBl (d2 eqD (oPl 5) (oV (dC (.str "in"))))) (dMeth M_put (oPl 3) (aCons (oPl 6) aNil)) (dMeth M_take (oPl 3) (aCons (oPl 6) aNil)))))))
      (enumD k (bs.map mv)) [some (.val (.str "row")), some (iv r), some (.val ms), some (.val (QU "row" r h)), x4, x5, x6] =
    (if allLe r (hts h bs) then .ok ([some (.val (.str "row")), some (iv r), some (.val ms), some (.val q), x4', x5', x6'], .nx) else .ok ([some (.val (.str "row")), some (iv r), some (.val ms), some (.val q), x4', x5', x6'], .rt (.ins 2 xs)))
  | [], h, k, x4, x5, x6, _, _ => ⟨[], QU "row" r h, x4, x5, x6, [], by simp [fl, enumD, hts, allLe]⟩
  | true :: bs, h, k, x4, x5, x6, h9, hg => by
    have hh := hg.1
    have q1 := q_full (κ := "row") (r := r) (h := h) (by omega)
    have ef : M_is_full 0 = some F_Queue_is_full := rfl
    have ep : M_put 0 = some F_Queue_put := rfl
    have emv : mv true = .tup [.str "in", .int 4] := rfl
    by_cases hf : (h : Int) = r
    · refine ⟨[], QU "row" r h, some (iv k), some (.val (.str "in")), some (iv 4), [.int k, .str "full"], ?_⟩
      have hz : allLe r (hts h (true :: bs)) = false := by
        simp only [hts, allLe, List.all_cons]
        rw [decide_eq_false (by omega)]; rfl
      rw [hz, if_neg (by decide)]
      simp only [decide_eq_true hf] at q1
      have hs := f_stuck 0 k "full"
      unfold QU at *
      generalize (D.tup (List.replicate h (.int 4))) = T0 at *
      simp only [List.map_cons, enumD, fl, emv]
      simp [cfOf, startE, fin_, outsOf, retag, findTag, dRet, dSeq, dEnd, dNever, dIte, dIf, dDrop, dFld, dSet, toB, dC, dName, dBl, dNot, dAnd, dOr, tAndD, tOrD, tNotD, dTru, dBoolC, boolD, dIsi, dIsi2, dIsC, tyN, isN, d2, d3, oV, oPl, aNil, aCons, aStar, seqOf, argB, argsB, ownPl, nodupB, wb, wb1, dCall, dMeth, oMake, oMake0, dSetFld, res, resAll, bV_val, bV_own, tD_lst, tD_ins, vals, dL, dLV, dTup, dLst, oLst, sz, ofO, leD, ltD, gtD, geD, i0D, iD, truD, isSq, dFz, R.bind, dAsg, gTp, gsCons, gsNil, gNm, dPar, setAll, dAug, dSetIx, isOwn, dApp, dFor, iVals, iRes, iSeq, dSl, pNo, pSome, cutD, dNeg, fdivD, modD, mulA, mulI, absD, intD, max2D, min2D, max3D, min3D, isND, notND, e_ii, q1, ef, hs]
    · obtain ⟨ρ, q, x4', x5', x6', xs, ih⟩ := loop_jm (ms := ms) r0 r9 bs (h + 1) (k + 1) (some (iv k)) (some (.val (.str "in"))) (some (iv 4)) (by omega) hg.2
      refine ⟨[], q, x4', x5', x6', xs, ?_⟩
      have hz : allLe r (hts h (true :: bs)) = allLe r (hts (h + 1) bs) := by
        simp only [hts, allLe, List.all_cons]
        rw [decide_eq_true (by omega), Bool.true_and]
      rw [hz, ← ih]
      simp only [decide_eq_false hf] at q1
      have q2 := q_put (κ := "row") (r := r) (h := h) (.inl rfl) (by omega) (by omega)
      unfold QU at *
      generalize (D.tup (List.replicate (h + 1) (.int 4))) = T1 at *
      generalize (D.tup (List.replicate h (.int 4))) = T0 at *
      simp only [List.map_cons, enumD, fl, emv]
      simp [cfOf, startE, fin_, outsOf, retag, findTag, dRet, dSeq, dEnd, dNever, dIte, dIf, dDrop, dFld, dSet, toB, dC, dName, dBl, dNot, dAnd, dOr, tAndD, tOrD, tNotD, dTru, dBoolC, boolD, dIsi, dIsi2, dIsC, tyN, isN, d2, d3, oV, oPl, aNil, aCons, aStar, seqOf, argB, argsB, ownPl, nodupB, wb, wb1, dCall, dMeth, oMake, oMake0, dSetFld, res, resAll, bV_val, bV_own, tD_lst, tD_ins, vals, dL, dLV, dTup, dLst, oLst, sz, ofO, leD, ltD, gtD, geD, i0D, iD, truD, isSq, dFz, R.bind, dAsg, gTp, gsCons, gsNil, gNm, dPar, setAll, dAug, dSetIx, isOwn, dApp, dFor, iVals, iRes, iSeq, dSl, pNo, pSome, cutD, dNeg, fdivD, modD, mulA, mulI, absD, intD, max2D, min2D, max3D, min3D, isND, notND, e_ii, e_io, q1, q2, ef, ep]
  | false :: bs, h, k, x4, x5, x6, h9, hg => by
    obtain ⟨h', rfl⟩ : ∃ h' : Nat, h = h' + 1 := ⟨h - 1, by have := hg.1; omega⟩
    have hg2 : Gd h' bs := by simpa using hg.2
    obtain ⟨ρ, q, x4', x5', x6', xs, ih⟩ := loop_jm (ms := ms) r0 r9 bs h' (k + 1) (some (iv k)) (some (.val (.str "out"))) (some (iv 4)) (by omega) hg2
    refine ⟨[], q, x4', x5', x6', xs, ?_⟩
    have hz : allLe r (hts (h' + 1) (false :: bs)) = allLe r (hts h' bs) := by
      simp only [hts, allLe, List.all_cons, Nat.add_sub_cancel]
      rw [decide_eq_true (by omega), Bool.true_and]
    rw [hz, ← ih]
    have q1 := q_nexts (κ := "row") (r := r) (h := h') (.inl rfl) (by omega)
    have q2 := q_take (κ := "row") (r := r) (h := h') (.inl rfl) (by omega) (by omega)
    have ef : M_nexts 0 = some F_Queue_nexts := rfl
    have ep : M_take 0 = some F_Queue_take := rfl
    have emv : mv false = .tup [.str "out", .int 4] := rfl
    unfold QU at *
    generalize (D.tup (List.replicate (h' + 1) (.int 4))) = T1 at *
    generalize (D.tup (List.replicate h' (.int 4))) = T0 at *
    simp only [List.map_cons, enumD, fl, emv]
    simp [cfOf, startE, fin_, outsOf, retag, findTag, dRet, dSeq, dEnd, dNever, dIte, dIf, dDrop, dFld, dSet, toB, dC, dName, dBl, dNot, dAnd, dOr, tAndD, tOrD, tNotD, dTru, dBoolC, boolD, dIsi, dIsi2, dIsC, tyN, isN, d2, d3, oV, oPl, aNil, aCons, aStar, seqOf, argB, argsB, ownPl, nodupB, wb, wb1, dCall, dMeth, oMake, oMake0, dSetFld, res, resAll, bV_val, bV_own, tD_lst, tD_ins, vals, dL, dLV, dTup, dLst, oLst, sz, ofO, leD, ltD, gtD, geD, i0D, iD, truD, isSq, dFz, R.bind, dAsg, gTp, gsCons, gsNil, gNm, dPar, setAll, dAug, dSetIx, isOwn, dApp, dFor, iVals, iRes, iSeq, dSl, pNo, pSome, cutD, dNeg, fdivD, modD, mulA, mulI, absD, intD, max2D, min2D, max3D, min3D, isND, notND, e_oi, e_oo, q1, q2, ef, ep, in_44]
theorem f_jm {r : Int} {bs : List Bool} (r0 : 0 ≤ r) (r9 : r ≤ 9) (hg : Gd 0 bs) (hl : bs.length ≤ 40) : ∃ xs : List D, F_judge_moves [.val (.str "row"), iv r, .val (mT bs)] = .ok [none, none, none] (.ins (if allLe r (hts 0 bs) then 1 else 2) xs) := by
  obtain ⟨ρ, q, x4, x5, x6, xs, e⟩ := loop_jm (ms := mT bs) r0 r9 bs 0 0 none none none r0 hg
  have h1 := f_chk hl
  have h2 := f_chq (κ := "row") (r := r) (.inl rfl) r0 r9
  have h3 := q_new (κ := "row") (r := r) 0 (.inl rfl) r0 r9
  have he : enum1 [mT bs] = some (enumD 0 (bs.map mv)) := rfl
  generalize enumD 0 (bs.map mv) = EE at *
  generalize mT bs = TB at *
  simp only [QU, List.replicate_zero] at e
  by_cases ha : allLe r (hts 0 bs) = true
  · rw [if_pos ha] at e
    refine ⟨[], ?_⟩
    rw [if_pos ha]
    simp [cfOf, startE, fin_, outsOf, retag, findTag, dRet, dSeq, dEnd, dNever, dIte, dIf, dDrop, dFld, dSet, toB, dC, dName, dBl, dNot, dAnd, dOr, tAndD, tOrD, tNotD, dTru, dBoolC, boolD, dIsi, dIsi2, dIsC, tyN, isN, d2, d3, oV, oPl, aNil, aCons, aStar, seqOf, argB, argsB, ownPl, nodupB, wb, wb1, dCall, dMeth, oMake, oMake0, dSetFld, res, resAll, bV_val, bV_own, tD_lst, tD_ins, vals, dL, dLV, dTup, dLst, oLst, sz, ofO, leD, ltD, gtD, geD, i0D, iD, truD, isSq, dFz, R.bind, dAsg, gTp, gsCons, gsNil, gNm, dPar, setAll, dAug, dSetIx, isOwn, dApp, dFor, iVals, iRes, iSeq, dSl, pNo, pSome, cutD, dNeg, fdivD, modD, mulA, mulI, absD, intD, max2D, min2D, max3D, min3D, isND, notND, F_judge_moves, D_judge_moves, h1, h2, h3, he, e]
  · rw [if_neg ha] at e
    refine ⟨xs, ?_⟩
    rw [if_neg ha]
    simp [cfOf, startE, fin_, outsOf, retag, findTag, dRet, dSeq, dEnd, dNever, dIte, dIf, dDrop, dFld, dSet, toB, dC, dName, dBl, dNot, dAnd, dOr, tAndD, tOrD, tNotD, dTru, dBoolC, boolD, dIsi, dIsi2, dIsC, tyN, isN, d2, d3, oV, oPl, aNil, aCons, aStar, seqOf, argB, argsB, ownPl, nodupB, wb, wb1, dCall, dMeth, oMake, oMake0, dSetFld, res, resAll, bV_val, bV_own, tD_lst, tD_ins, vals, dL, dLV, dTup, dLst, oLst, sz, ofO, leD, ltD, gtD, geD, i0D, iD, truD, isSq, dFz, R.bind, dAsg, gTp, gsCons, gsNil, gNm, dPar, setAll, dAug, dSetIx, isOwn, dApp, dFor, iVals, iRes, iSeq, dSl, pNo, pSome, cutD, dNeg, fdivD, modD, mulA, mulI, absD, intD, max2D, min2D, max3D, min3D, isND, notND, F_judge_moves, D_judge_moves, h1, h2, h3, he, e]
theorem tru_jm {c : DEn} {ρ : Zd.Env} {r : Int} {bs : List Bool} (r0 : 0 ≤ r) (r9 : r ≤ 9) (hg : Gd 0 bs) (hl : bs.length ≤ 40)
    (hc : ∀ d, F_judge_moves [.val (.str "row"), iv r, .val (mT bs)] = .ok [none, none, none] d → c ρ = .ok (ρ, d)) : dTru M_bool (oV c) ρ = .ok (ρ, allLe r (hts 0 bs)) := by
  obtain ⟨xs, h1⟩ := f_jm r0 r9 hg hl
  have h3 := hc _ h1
  by_cases ha : allLe r (hts 0 bs) = true
  · simp [dTru, oV, h3, R.bind, res, truD, M_bool, F_Fitsdd_booldd, D_Fitsdd_booldd, ha, cfOf, startE, fin_, outsOf, retag, findTag, dRet, dSeq, dEnd, dNever, dIte, dIf, dDrop, dFld, dSet, toB, dC, dName, dBl, dNot, dAnd, dOr, tAndD, tOrD, tNotD, dTru, dBoolC, boolD, dIsi, dIsi2, dIsC, tyN, isN, d2, d3, oV, oPl, aNil, aCons, aStar, seqOf, argB, argsB, ownPl, nodupB, wb, wb1, dCall, dMeth, oMake, oMake0, dSetFld, res, resAll, bV_val, bV_own, tD_lst, tD_ins, vals, dL, dLV, dTup, dLst, oLst, sz, ofO, leD, ltD, gtD, geD, i0D, iD, truD, isSq, lenD, dFz, R.bind, dAsg, gTp, gsCons, gsNil, gNm, dPar, setAll, dAug, dSetIx, isOwn, dApp, dFor, iVals, iRes, iSeq, dSl, pNo, pSome, cutD, dNeg, fdivD, modD, powD, mulA, mulI, addD, absD, intD, max2D, min2D, max3D, min3D, isND, notND]
  · have ha : allLe r (hts 0 bs) = false := by simpa using ha
    simp [dTru, oV, h3, R.bind, res, truD, M_bool, F_Stuckdd_booldd, D_Stuckdd_booldd, ha, cfOf, startE, fin_, outsOf, retag, findTag, dRet, dSeq, dEnd, dNever, dIte, dIf, dDrop, dFld, dSet, toB, dC, dName, dBl, dNot, dAnd, dOr, tAndD, tOrD, tNotD, dTru, dBoolC, boolD, dIsi, dIsi2, dIsC, tyN, isN, d2, d3, oV, oPl, aNil, aCons, aStar, seqOf, argB, argsB, ownPl, nodupB, wb, wb1, dCall, dMeth, oMake, oMake0, dSetFld, res, resAll, bV_val, bV_own, tD_lst, tD_ins, vals, dL, dLV, dTup, dLst, oLst, sz, ofO, leD, ltD, gtD, geD, i0D, iD, truD, isSq, lenD, dFz, R.bind, dAsg, gTp, gsCons, gsNil, gNm, dPar, setAll, dAug, dSetIx, isOwn, dApp, dFor, iVals, iRes, iSeq, dSl, pNo, pSome, cutD, dNeg, fdivD, modD, powD, mulA, mulI, addD, absD, intD, max2D, min2D, max3D, min3D, isND, notND]
theorem loop_least {bs : List Bool} (hg : Gd 0 bs) (hl : bs.length ≤ 40) : ∀ (rs : List Int) (x : Option B), (∀ r ∈ rs, 0 ≤ r ∧ r ≤ 9) → ∃ x' : Option B,
    fl (gNm 2) (dIte (dTru M_bool (oV (dCall F_judge_moves (aCons (oPl 0) (aCons (oPl 2) (aCons (oPl 1) aNil)))))) (dRet (dName 2)) (dEnd .nx)) (rs.map D.int) [some (.val (.str "row")), some (.val (mT bs)), x] =
    match rs.find? (fun r => allLe r (hts 0 bs)) with
    | some r => .ok ([some (.val (.str "row")), some (.val (mT bs)), x'], .rt (.int r))
    | none => .ok ([some (.val (.str "row")), some (.val (mT bs)), x'], .nx)
  | [], x, _ => ⟨x, rfl⟩
  | r :: rs, x, h => by
    have hr := h r List.mem_cons_self
    have ht := tru_jm (c := dCall F_judge_moves (aCons (oPl 0) (aCons (oPl 2) (aCons (oPl 1) aNil)))) (ρ := [some (.val (.str "row")), some (.val (mT bs)), some (iv r)]) hr.1 hr.2 hg hl (fun d hd => by
      unfold mT at *
      generalize D.tup (bs.map mv) = TB at *
      simp [cfOf, startE, fin_, outsOf, retag, findTag, dRet, dSeq, dEnd, dNever, dIte, dIf, dDrop, dFld, dSet, toB, dC, dName, dBl, dNot, dAnd, dOr, tAndD, tOrD, tNotD, dTru, dBoolC, boolD, dIsi, dIsi2, dIsC, tyN, isN, d2, d3, oV, oPl, aNil, aCons, aStar, seqOf, argB, argsB, ownPl, nodupB, wb, wb1, dCall, dMeth, oMake, oMake0, dSetFld, res, resAll, bV_val, bV_own, tD_lst, tD_ins, vals, dL, dLV, dTup, dLst, oLst, sz, ofO, leD, ltD, gtD, geD, i0D, iD, truD, isSq, lenD, dFz, R.bind, dAsg, gTp, gsCons, gsNil, gNm, dPar, setAll, dAug, dSetIx, isOwn, dApp, dFor, iVals, iRes, iSeq, dSl, pNo, pSome, cutD, dNeg, fdivD, modD, powD, mulA, mulI, addD, absD, intD, max2D, min2D, max3D, min3D, isND, notND, hd])
    by_cases ha : allLe r (hts 0 bs) = true
    · refine ⟨some (iv r), ?_⟩
      have hfd : (r :: rs).find? (fun r => allLe r (hts 0 bs)) = some r := by simp [ha]
      rw [hfd]
      rw [ha] at ht
      have hg1 : gNm 2 (.int r) [some (.val (.str "row")), some (.val (mT bs)), x] = some [some (.val (.str "row")), some (.val (mT bs)), some (iv r)] := by simp [gNm]
      have hb1 : (dIte (dTru M_bool (oV (dCall F_judge_moves (aCons (oPl 0) (aCons (oPl 2) (aCons (oPl 1) aNil)))))) (dRet (dName 2)) (dEnd .nx)) [some (.val (.str "row")), some (.val (mT bs)), some (iv r)] = .ok ([some (.val (.str "row")), some (.val (mT bs)), some (iv r)], .rt (.int r)) := by
        simp [dIte, ht, R.bind, dRet, dName, bV_val]
      simp only [List.map_cons, fl, hg1, ofO, R.bind, hb1]
    · obtain ⟨x', ih⟩ := loop_least hg hl rs (some (iv r)) (fun z hz => h z (List.mem_cons_of_mem _ hz))
      refine ⟨x', ?_⟩
      have hfd : (r :: rs).find? (fun r => allLe r (hts 0 bs)) = rs.find? (fun r => allLe r (hts 0 bs)) := by simp [ha]
      rw [hfd, ← ih]
      have ha : allLe r (hts 0 bs) = false := by simpa using ha
      rw [ha] at ht
      have hg1 : gNm 2 (.int r) [some (.val (.str "row")), some (.val (mT bs)), x] = some [some (.val (.str "row")), some (.val (mT bs)), some (iv r)] := by simp [gNm]
      have hb1 : (dIte (dTru M_bool (oV (dCall F_judge_moves (aCons (oPl 0) (aCons (oPl 2) (aCons (oPl 1) aNil)))))) (dRet (dName 2)) (dEnd .nx)) [some (.val (.str "row")), some (.val (mT bs)), some (iv r)] = .ok ([some (.val (.str "row")), some (.val (mT bs)), some (iv r)], .nx) := by
        simp [dIte, ht, R.bind, dEnd]
      simp only [List.map_cons, fl, hg1, ofO, R.bind, hb1]
theorem max_le {r : Int} {L : List Int} (r0 : 0 ≤ r) : allLe r L = decide (maxI 0 L ≤ r) := by
  obtain ⟨h1, h2, h3⟩ := maxI_spec L 0
  rw [Bool.eq_iff_iff, decide_eq_true_iff]
  unfold allLe
  rw [List.all_eq_true]
  constructor
  · intro h
    rcases h1 with h1 | h1
    · omega
    · simpa using h _ h1
  · intro h z hz
    have := h3 z hz
    simp; omega
theorem find_least {M : Int} {L : List Int} (h : M = maxI 0 L) (m0 : 0 ≤ M) (m9 : M ≤ 9) : ([0, 1, 2, 3, 4, 5, 6, 7, 8, 9] : List Int).find? (fun r => allLe r L) = some M := by
  have e : ([0, 1, 2, 3, 4, 5, 6, 7, 8, 9] : List Int).find? (fun r => allLe r L) = ([0, 1, 2, 3, 4, 5, 6, 7, 8, 9] : List Int).find? (fun r => decide (M ≤ r)) := by
    simp only [List.find?_cons, List.find?_nil, max_le (L := L) (show (0 : Int) ≤ 0 by omega), max_le (L := L) (show (0 : Int) ≤ 1 by omega), max_le (L := L) (show (0 : Int) ≤ 2 by omega), max_le (L := L) (show (0 : Int) ≤ 3 by omega), max_le (L := L) (show (0 : Int) ≤ 4 by omega), max_le (L := L) (show (0 : Int) ≤ 5 by omega), max_le (L := L) (show (0 : Int) ≤ 6 by omega), max_le (L := L) (show (0 : Int) ≤ 7 by omega), max_le (L := L) (show (0 : Int) ≤ 8 by omega), max_le (L := L) (show (0 : Int) ≤ 9 by omega), ← h]
  rw [e]
  have : M = 0 ∨ M = 1 ∨ M = 2 ∨ M = 3 ∨ M = 4 ∨ M = 5 ∨ M = 6 ∨ M = 7 ∨ M = 8 ∨ M = 9 := by omega
  rcases this with rfl | rfl | rfl | rfl | rfl | rfl | rfl | rfl | rfl | rfl <;> rfl
theorem f_least {bs : List Bool} (hg : Gd 0 bs) (hl : bs.length ≤ 40) : F_least_room [.val (.str "row"), .val (mT bs)] = .ok [none, none] (.int (maxI 0 (hts 0 bs))) := by
  obtain ⟨q1, q2, q3⟩ := maxI_spec (hts 0 bs) 0
  have hn := hts_nine bs 0 (by omega) hg
  have m9 : maxI 0 (hts 0 bs) ≤ 9 := by
    rcases q1 with q1 | q1
    · omega
    · exact (hn _ q1).2
  obtain ⟨x', e⟩ := loop_least hg hl [0, 1, 2, 3, 4, 5, 6, 7, 8, 9] none (fun r hr => by simp at hr; omega)
  rw [find_least rfl q2 m9] at e
  have h1 := f_chk hl
  have h2 := f_chq (κ := "row") (r := 0) (.inl rfl) (by omega) (by omega)
  have hr : rng1 [.int 10] = some (([0, 1, 2, 3, 4, 5, 6, 7, 8, 9] : List Int).map D.int) := rfl
  simp only at e
  generalize ([0, 1, 2, 3, 4, 5, 6, 7, 8, 9] : List Int).map D.int = RR at *
  generalize mT bs = TB at *
  simp [cfOf, startE, fin_, outsOf, retag, findTag, dRet, dSeq, dEnd, dNever, dIte, dIf, dDrop, dFld, dSet, toB, dC, dName, dBl, dNot, dAnd, dOr, tAndD, tOrD, tNotD, dTru, dBoolC, boolD, dIsi, dIsi2, dIsC, tyN, isN, d2, d3, oV, oPl, aNil, aCons, aStar, seqOf, argB, argsB, ownPl, nodupB, wb, wb1, dCall, dMeth, oMake, oMake0, dSetFld, res, resAll, bV_val, bV_own, tD_lst, tD_ins, vals, dL, dLV, dTup, dLst, oLst, sz, ofO, leD, ltD, gtD, geD, i0D, iD, truD, isSq, lenD, dFz, R.bind, dAsg, gTp, gsCons, gsNil, gNm, dPar, setAll, dAug, dSetIx, isOwn, dApp, dFor, iVals, iRes, iSeq, dSl, pNo, pSome, cutD, dNeg, fdivD, modD, powD, mulA, mulI, addD, absD, intD, max2D, min2D, max3D, min3D, isND, notND, F_least_room, D_least_room, h1, h2, vv_MOST_ROOM, hr, e]
end A
end
section
namespace A
open PySem Zd
set_option autoImplicit false
def InvQ (S : List Int) (k : Nat) (ρ : Zd.Env) : Prop := ∃ n : Int, ∃ bs : List Bool, ∃ y0 y2 y3 y4 y5 y6 y7 y8 y9 y10 y11 y12 y13 y14 y15 y16 y17 y18 y19 y20 y23 : Option B, 0 ≤ n ∧ Gd 0 bs ∧ bs.length = k ∧ ρ = [y0, drw S n, y2, y3, y4, y5, y6, y7, y8, y9, y10, y11, y12, y13, y14, y15, y16, y17, y18, y19, y20, some (.val (mT bs)), some (iv (hend 0 bs : Int)), y23]
theorem put_ok {S : List Int} {k : Nat} (hk : k < 40) (d : D) (ρ : Zd.Env) (hI : InvQ S k ρ) : ∃ ρ1 ρ2, gNm 2 d ρ = some ρ1 ∧ dSeq S_law_20 S_law_21 ρ1 = .ok (ρ2, .nx) ∧ InvQ S (k + 1) ρ2 := by
  obtain ⟨n, bs, y0, y2, y3, y4, y5, y6, y7, y8, y9, y10, y11, y12, y13, y14, y15, y16, y17, y18, y19, y20, y23, hn, hg, hb, rfl⟩ := hI
  have h9 := hend_le bs 0 (by omega) hg
  have key : ∀ (p : Bool) (n' : Int), 0 ≤ n' → (p = true → hend 0 bs < 9) → (p = false → 1 ≤ hend 0 bs) →
      S_law_20 [y0, drw S n, some (.val d), y3, y4, y5, y6, y7, y8, y9, y10, y11, y12, y13, y14, y15, y16, y17, y18, y19, y20, some (.val (mT bs)), some (iv (hend 0 bs : Int)), y23] = .ok ([y0, drw S n', some (.val d), y3, y4, y5, y6, y7, y8, y9, y10, y11, y12, y13, y14, y15, y16, y17, y18, y19, y20, some (.val (mT bs)), some (iv (hend 0 bs : Int)), some (.val (.bl p))], .nx) →
      ∃ ρ1 ρ2, gNm 2 d [y0, drw S n, y2, y3, y4, y5, y6, y7, y8, y9, y10, y11, y12, y13, y14, y15, y16, y17, y18, y19, y20, some (.val (mT bs)), some (iv (hend 0 bs : Int)), y23] = some ρ1 ∧ dSeq S_law_20 S_law_21 ρ1 = .ok (ρ2, .nx) ∧ InvQ S (k + 1) ρ2 := fun p n' hn' hp hq h20 => by
    refine ⟨[y0, drw S n, some (.val d), y3, y4, y5, y6, y7, y8, y9, y10, y11, y12, y13, y14, y15, y16, y17, y18, y19, y20, some (.val (mT bs)), some (iv (hend 0 bs : Int)), y23], [y0, drw S n', some (.val d), y3, y4, y5, y6, y7, y8, y9, y10, y11, y12, y13, y14, y15, y16, y17, y18, y19, y20, some (.val (mT (bs ++ [p]))), some (iv (hend 0 (bs ++ [p]) : Int)), some (.val (.bl p))], by simp [gNm], ?_, n', bs ++ [p], y0, some (.val d), y3, y4, y5, y6, y7, y8, y9, y10, y11, y12, y13, y14, y15, y16, y17, y18, y19, y20, some (.val (.bl p)), hn', ?_, by simp [hb], rfl⟩
    · rw [seq_nx h20]
      have hm : addD (mT bs) (.tup [mv p]) = some (mT (bs ++ [p])) := by
        simp [addD, mT, hb]; omega
      have he : (hend 0 (bs ++ [p]) : Int) = hend 0 bs + (if p then 1 else -1) := by
        cases p
        · have := (gd_take bs 0 hg (hq rfl)).2
          have := hq rfl
          simp; omega
        · have := (gd_put bs 0 hg (hp rfl)).2
          simp; omega
      rw [he]
      have hmv : mv p = .tup [.str (if p then "in" else "out"), .int 4] := by cases p <;> rfl
      rw [hmv] at hm
      unfold drw
      generalize fI S = FS
      generalize mT (bs ++ [p]) = M2 at *
      generalize mT bs = M1 at *
      generalize (hend 0 bs : Int) = hh at *
      unfold S_law_21
      have ei : ∀ a b : Int, addD (.int a) (.int b) = some (.int (a + b)) := fun _ _ => rfl
      cases p
      · simp at hm
        simp [cfOf, startE, fin_, outsOf, retag, findTag, dRet, dSeq, dEnd, dNever, dIte, dIf, dDrop, dFld, dSet, toB, dC, dName, dBl, dNot, dAnd, dOr, tAndD, tOrD, tNotD, dTru, dBoolC, boolD, dIsi, dIsi2, dIsC, tyN, isN, d2, d3, oV, oPl, aNil, aCons, aStar, seqOf, argB, argsB, ownPl, nodupB, wb, wb1, dCall, dMeth, oMake, oMake0, dSetFld, res, resAll, bV_val, bV_own, tD_lst, tD_ins, vals, dL, dLV, dTup, dLst, oLst, sz, ofO, leD, ltD, gtD, geD, i0D, iD, truD, isSq, lenD, dFz, R.bind, dAsg, gTp, gsCons, gsNil, gNm, dPar, setAll, dAug, dSetIx, isOwn, dApp, dFor, iVals, iRes, iSeq, dSl, pNo, pSome, cutD, dNeg, fdivD, modD, mulA, mulI, absD, intD, max2D, min2D, max3D, min3D, isND, notND, hm, boolD, ei]
      · simp at hm
        simp [cfOf, startE, fin_, outsOf, retag, findTag, dRet, dSeq, dEnd, dNever, dIte, dIf, dDrop, dFld, dSet, toB, dC, dName, dBl, dNot, dAnd, dOr, tAndD, tOrD, tNotD, dTru, dBoolC, boolD, dIsi, dIsi2, dIsC, tyN, isN, d2, d3, oV, oPl, aNil, aCons, aStar, seqOf, argB, argsB, ownPl, nodupB, wb, wb1, dCall, dMeth, oMake, oMake0, dSetFld, res, resAll, bV_val, bV_own, tD_lst, tD_ins, vals, dL, dLV, dTup, dLst, oLst, sz, ofO, leD, ltD, gtD, geD, i0D, iD, truD, isSq, lenD, dFz, R.bind, dAsg, gTp, gsCons, gsNil, gNm, dPar, setAll, dAug, dSetIx, isOwn, dApp, dFor, iVals, iRes, iSeq, dSl, pNo, pSome, cutD, dNeg, fdivD, modD, mulA, mulI, absD, intD, max2D, min2D, max3D, min3D, isND, notND, hm, boolD, ei]
    · cases p
      · exact (gd_take bs 0 hg (hq rfl)).1
      · exact (gd_put bs 0 hg (hp rfl)).1
  have q1 := eq_int
  by_cases h0 : hend 0 bs = 0
  · refine key true n hn (fun _ => by omega) (fun q => nomatch q) ?_
    have h0' : (hend 0 bs : Int) = 0 := by omega
    rw [h0']
    unfold S_law_20 drw
    generalize fI S = FS
    generalize mT bs = M1
    simp [cfOf, startE, fin_, outsOf, retag, findTag, dRet, dSeq, dEnd, dNever, dIte, dIf, dDrop, dFld, dSet, toB, dC, dName, dBl, dNot, dAnd, dOr, tAndD, tOrD, tNotD, dTru, dBoolC, boolD, dIsi, dIsi2, dIsC, tyN, isN, d2, d3, oV, oPl, aNil, aCons, aStar, seqOf, argB, argsB, ownPl, nodupB, wb, wb1, dCall, dMeth, oMake, oMake0, dSetFld, res, resAll, bV_val, bV_own, tD_lst, tD_ins, vals, dL, dLV, dTup, dLst, oLst, sz, ofO, leD, ltD, gtD, geD, i0D, iD, truD, isSq, lenD, dFz, R.bind, dAsg, gTp, gsCons, gsNil, gNm, dPar, setAll, dAug, dSetIx, isOwn, dApp, dFor, iVals, iRes, iSeq, dSl, pNo, pSome, cutD, dNeg, fdivD, modD, powD, mulA, mulI, addD, absD, intD, max2D, min2D, max3D, min3D, isND, notND, q1]
  · by_cases h99 : hend 0 bs < 9
    · obtain ⟨r, r0, r1, hr⟩ := f_next (L := S) (t := 0) (b := 2) hn (by omega)
      refine key (decide (r = 0)) (n + 1) (by omega) (fun _ => h99) (fun _ => by omega) ?_
      have e1 : ¬ (hend 0 bs : Int) = 0 := by omega
      have e2 : (hend 0 bs : Int) < 9 := by omega
      unfold S_law_20 drw
      generalize fI S = FS at *
      generalize mT bs = M1
      generalize (hend 0 bs : Int) = hh at *
      simp [cfOf, startE, fin_, outsOf, retag, findTag, dRet, dSeq, dEnd, dNever, dIte, dIf, dDrop, dFld, dSet, toB, dC, dName, dBl, dNot, dAnd, dOr, tAndD, tOrD, tNotD, dTru, dBoolC, boolD, dIsi, dIsi2, dIsC, tyN, isN, d2, d3, oV, oPl, aNil, aCons, aStar, seqOf, argB, argsB, ownPl, nodupB, wb, wb1, dCall, dMeth, oMake, oMake0, dSetFld, res, resAll, bV_val, bV_own, tD_lst, tD_ins, vals, dL, dLV, dTup, dLst, oLst, sz, ofO, leD, ltD, gtD, geD, i0D, iD, truD, isSq, lenD, dFz, R.bind, dAsg, gTp, gsCons, gsNil, gNm, dPar, setAll, dAug, dSetIx, isOwn, dApp, dFor, iVals, iRes, iSeq, dSl, pNo, pSome, cutD, dNeg, fdivD, modD, powD, mulA, mulI, addD, absD, intD, max2D, min2D, max3D, min3D, isND, notND, q1, e1, e2, hr]
    · refine key false n hn (fun q => nomatch q) (fun _ => by omega) ?_
      have e1 : ¬ (hend 0 bs : Int) = 0 := by omega
      have e2 : ¬ (hend 0 bs : Int) < 9 := by omega
      unfold S_law_20 drw
      generalize fI S = FS at *
      generalize mT bs = M1
      generalize (hend 0 bs : Int) = hh at *
      simp [cfOf, startE, fin_, outsOf, retag, findTag, dRet, dSeq, dEnd, dNever, dIte, dIf, dDrop, dFld, dSet, toB, dC, dName, dBl, dNot, dAnd, dOr, tAndD, tOrD, tNotD, dTru, dBoolC, boolD, dIsi, dIsi2, dIsC, tyN, isN, d2, d3, oV, oPl, aNil, aCons, aStar, seqOf, argB, argsB, ownPl, nodupB, wb, wb1, dCall, dMeth, oMake, oMake0, dSetFld, res, resAll, bV_val, bV_own, tD_lst, tD_ins, vals, dL, dLV, dTup, dLst, oLst, sz, ofO, leD, ltD, gtD, geD, i0D, iD, truD, isSq, lenD, dFz, R.bind, dAsg, gTp, gsCons, gsNil, gNm, dPar, setAll, dAug, dSetIx, isOwn, dApp, dFor, iVals, iRes, iSeq, dSl, pNo, pSome, cutD, dNeg, fdivD, modD, powD, mulA, mulI, addD, absD, intD, max2D, min2D, max3D, min3D, isND, notND, q1, e1, e2]
theorem loop_put {S : List Int} : ∀ (ds : List D) (k : Nat) (ρ : Zd.Env), k + ds.length ≤ 40 → InvQ S k ρ → ∃ ρ2, fl (gNm 2) (dSeq S_law_20 S_law_21) ds ρ = .ok (ρ2, .nx) ∧ InvQ S (k + ds.length) ρ2
  | [], k, ρ, _, h => ⟨ρ, rfl, h⟩
  | d :: ds, k, ρ, hl, h => by
    simp only [List.length_cons] at hl
    obtain ⟨ρ1, ρ2, h1, h2, h3⟩ := put_ok (by omega) d ρ h
    obtain ⟨ρ3, h4, h5⟩ := loop_put ds (k + 1) ρ2 (by omega) h3
    refine ⟨ρ3, ?_, by rw [List.length_cons, show k + (ds.length + 1) = k + 1 + ds.length by omega]; exact h5⟩
    simp [fl, ofO, h1, h2, h4, R.bind]
theorem st22 {S : List Int} (ρ : Zd.Env) (hI : InvQ S 0 ρ) : ∃ ρ2, S_law_22 ρ = .ok (ρ2, .nx) ∧ InvQ S 20 ρ2 := by
  obtain ⟨ρ2, h1, h2⟩ := loop_put (rngL 0 1 20) 0 ρ (by simp [rngL]) hI
  refine ⟨ρ2, ?_, by simpa [rngL] using h2⟩
  rw [← h1]
  have hr : rng1 [.int 20] = some (rngL 0 1 20) := rfl
  unfold S_law_22 dFor
  generalize rngL 0 1 20 = RR at hr
  simp only [iRes, aCons, aNil, oV, dC, R.bind, resAll, res, Option.bind_some, hr, ofO]
end A
end
section
namespace A
open PySem Zd
set_option autoImplicit false
theorem rings_none {L : List Int} : decide (rings 1 1 2 L = []) = allLe 2 L := by
  rw [rings_one, Bool.eq_iff_iff, decide_eq_true_iff]
  unfold upTo allLe
  rw [List.filter_eq_nil_iff, List.all_eq_true]
  constructor
  · intro h z hz
    obtain ⟨i, hi, rfl⟩ := List.mem_iff_getElem.mp hz
    have := h (i : Int) (List.mem_map.mpr ⟨i, List.mem_range.mpr hi, rfl⟩)
    have e : lg L (i : Int) = L[i] := by unfold lg; rw [Int.toNat_natCast, List.getElem?_eq_getElem hi]; rfl
    rw [e] at this
    simp at this ⊢; omega
  · intro h t ht
    obtain ⟨i, hi, rfl⟩ := List.mem_map.mp ht
    have hi := List.mem_range.mp hi
    have := h _ (List.getElem_mem hi)
    have e : lg L (i : Int) = L[i] := by unfold lg; rw [Int.toNat_natCast, List.getElem?_eq_getElem hi]; rfl
    rw [e]
    simp at this ⊢; omega
theorem st25 {x0 x1 x2 x3 x4 x5 x6 x7 x8 x9 x10 x11 x12 x13 x14 x15 x16 x17 x18 x19 x20 x21 x22 x23 : Option B} {bs : List Bool} (hg : Gd 0 bs) (hl : bs.length ≤ 40) :
    ∃ ρ2, S_law_25 [x0, x1, x2, x3, x4, x5, x6, x7, some (.val (tI (0 :: hts 0 bs))), some (.val (tI (rings 1 1 2 (0 :: hts 0 bs)))), x10, x11, x12, x13, x14, x15, x16, x17, x18, x19, x20, some (.val (mT bs)), x22, x23] = .ok (ρ2, .rt (.bl true)) := by
  have hlen := hts_len bs 0
  have hL : InNine (0 :: hts 0 bs) := fun z hz => by
    rcases List.mem_cons.mp hz with rfl | hz
    · omega
    · exact hts_nine bs 0 (by omega) hg z hz
  have h1 := f_is_lengths (s := 1) hL (by simp) (by simp [hlen]; omega) (by omega) (by omega)
  have hn : nearB 1 (0 :: hts 0 bs) = true := hts_near bs 0 hg
  rw [hn] at h1
  have h2 := f_lb (κ := "row") (.inl rfl) hg hl
  have h3 := eq_tI (0 :: hts 0 bs) (0 :: hts 0 bs)
  rw [decide_eq_true rfl] at h3
  have h4 := f_least hg hl
  have h5 : maxD [tI (0 :: hts 0 bs)] = some (.int (maxI 0 (hts 0 bs))) := by
    have := ints_map (0 :: hts 0 bs)
    simp only [maxD, isSq, tI, Option.bind_some, this]
    rfl
  have h6 := eq_int (maxI 0 (hts 0 bs)) (maxI 0 (hts 0 bs))
  rw [decide_eq_true rfl] at h6
  obtain ⟨xs, h7⟩ := f_jm (r := 2) (by omega) (by omega) hg hl
  have h8 := eq_tI (rings 1 1 2 (0 :: hts 0 bs)) []
  rw [rings_none] at h8
  have h9 : allLe 2 (0 :: hts 0 bs) = allLe 2 (hts 0 bs) := by simp [allLe]
  rw [h9] at h8
  have q1 : ∀ b : Bool, eqD (.bl b) (.bl b) = some (.bl true) := fun b => by cases b <;> kernel_rfl
  have e0 : tI [] = .tup [] := rfl
  rw [e0] at h8
  generalize maxI 0 (hts 0 bs) = M at *
  generalize tI (rings 1 1 2 (0 :: hts 0 bs)) = RQ at *
  generalize tI (0 :: hts 0 bs) = TL at *
  generalize mT bs = TB at *
  refine ⟨[x0, x1, x2, x3, x4, x5, x6, x7, some (.val TL), some (.val RQ), x10, x11, x12, x13, x14, x15, x16, x17, x18, x19, x20, some (.val TB), x22, x23], ?_⟩
  unfold S_law_25
  by_cases ha : allLe 2 (hts 0 bs) = true
  · rw [if_pos ha] at h7
    rw [ha] at h8
    simp [cfOf, startE, fin_, outsOf, retag, findTag, dRet, dSeq, dEnd, dNever, dIte, dIf, dDrop, dFld, dSet, toB, dC, dName, dBl, dNot, dAnd, dOr, tAndD, tOrD, tNotD, dTru, dBoolC, boolD, dIsi, dIsi2, dIsC, tyN, isN, d2, d3, oV, oPl, aNil, aCons, aStar, seqOf, argB, argsB, ownPl, nodupB, wb, wb1, dCall, dMeth, oMake, oMake0, dSetFld, res, resAll, bV_val, bV_own, tD_lst, tD_ins, vals, dL, dLV, dTup, dLst, oLst, sz, ofO, leD, ltD, gtD, geD, i0D, iD, truD, isSq, dFz, R.bind, dAsg, gTp, gsCons, gsNil, gNm, dPar, setAll, dAug, dSetIx, isOwn, dApp, dFor, iVals, iRes, iSeq, dSl, pNo, pSome, cutD, dNeg, fdivD, modD, mulA, mulI, absD, intD, max2D, min2D, max3D, min3D, isND, notND, h1, h2, h3, h4, h5, h6, h7, h8, q1, dBoolC, M_bool, F_Fitsdd_booldd, D_Fitsdd_booldd]
  · rw [if_neg ha] at h7
    have ha : allLe 2 (hts 0 bs) = false := by simpa using ha
    rw [ha] at h8
    simp [cfOf, startE, fin_, outsOf, retag, findTag, dRet, dSeq, dEnd, dNever, dIte, dIf, dDrop, dFld, dSet, toB, dC, dName, dBl, dNot, dAnd, dOr, tAndD, tOrD, tNotD, dTru, dBoolC, boolD, dIsi, dIsi2, dIsC, tyN, isN, d2, d3, oV, oPl, aNil, aCons, aStar, seqOf, argB, argsB, ownPl, nodupB, wb, wb1, dCall, dMeth, oMake, oMake0, dSetFld, res, resAll, bV_val, bV_own, tD_lst, tD_ins, vals, dL, dLV, dTup, dLst, oLst, sz, ofO, leD, ltD, gtD, geD, i0D, iD, truD, isSq, dFz, R.bind, dAsg, gTp, gsCons, gsNil, gNm, dPar, setAll, dAug, dSetIx, isOwn, dApp, dFor, iVals, iRes, iSeq, dSl, pNo, pSome, cutD, dNeg, fdivD, modD, mulA, mulI, absD, intD, max2D, min2D, max3D, min3D, isND, notND, h1, h2, h3, h4, h5, h6, h7, h8, q1, dBoolC, M_bool, F_Stuckdd_booldd, D_Stuckdd_booldd]
theorem tail_ok {S : List Int} (ρ : Zd.Env) (hI : InvQ S 20 ρ) : ∃ ρ2, dSeq S_law_23 (dSeq S_law_24 S_law_25) ρ = .ok (ρ2, .rt (.bl true)) := by
  obtain ⟨n, bs, y0, y2, y3, y4, y5, y6, y7, y8, y9, y10, y11, y12, y13, y14, y15, y16, y17, y18, y19, y20, y23, hn, hg, hb, rfl⟩ := hI
  have hlen := hts_len bs 0
  have hL : InNine (0 :: hts 0 bs) := fun z hz => by
    rcases List.mem_cons.mp hz with rfl | hz
    · omega
    · exact hts_nine bs 0 (by omega) hg z hz
  have h1 := f_lb (κ := "heap") (.inr rfl) hg (by omega)
  have h' : Okl 1 1 2 := ⟨by omega, by omega, by omega, by omega, by omega, by omega⟩
  have h2 := f_rings_of h' hL (by simp) (by simp [hlen]; omega)
  have hk := f_mk h' 0
  obtain ⟨ρ2, h3⟩ := st25 (x0 := y0) (x1 := drw S n) (x2 := y2) (x3 := y3) (x4 := y4) (x5 := y5) (x6 := y6) (x7 := y7) (x8 := none) (x9 := none) (x10 := y10) (x11 := y11) (x12 := y12) (x13 := y13) (x14 := y14) (x15 := y15) (x16 := y16) (x17 := y17) (x18 := y18) (x19 := y19) (x20 := y20) (x21 := none) (x22 := some (iv (hend 0 bs : Int))) (x23 := y23) hg (by omega)
  refine ⟨ρ2, ?_⟩
  rw [← h3]
  generalize tI (rings 1 1 2 (0 :: hts 0 bs)) = RQ at *
  generalize tI (0 :: hts 0 bs) = TL at *
  generalize mT bs = TB at *
  have a1 : S_law_23 [y0, drw S n, y2, y3, y4, y5, y6, y7, y8, y9, y10, y11, y12, y13, y14, y15, y16, y17, y18, y19, y20, some (.val TB), some (iv (hend 0 bs : Int)), y23] = .ok ([y0, drw S n, y2, y3, y4, y5, y6, y7, some (.val TL), y9, y10, y11, y12, y13, y14, y15, y16, y17, y18, y19, y20, some (.val TB), some (iv (hend 0 bs : Int)), y23], .nx) := by
    unfold S_law_23
    simp [cfOf, startE, fin_, outsOf, retag, findTag, dRet, dSeq, dEnd, dNever, dIte, dIf, dDrop, dFld, dSet, toB, dC, dName, dBl, dNot, dAnd, dOr, tAndD, tOrD, tNotD, dTru, dBoolC, boolD, dIsi, dIsi2, dIsC, tyN, isN, d2, d3, oV, oPl, aNil, aCons, aStar, seqOf, argB, argsB, ownPl, nodupB, wb, wb1, dCall, dMeth, oMake, oMake0, dSetFld, res, resAll, bV_val, bV_own, tD_lst, tD_ins, vals, dL, dLV, dTup, dLst, oLst, sz, ofO, leD, ltD, gtD, geD, i0D, iD, truD, isSq, lenD, dFz, R.bind, dAsg, gTp, gsCons, gsNil, gNm, dPar, setAll, dAug, dSetIx, isOwn, dApp, dFor, iVals, iRes, iSeq, dSl, pNo, pSome, cutD, dNeg, fdivD, modD, powD, mulA, mulI, addD, absD, intD, max2D, min2D, max3D, min3D, isND, notND, h1]
  have a2 : S_law_24 [y0, drw S n, y2, y3, y4, y5, y6, y7, some (.val TL), y9, y10, y11, y12, y13, y14, y15, y16, y17, y18, y19, y20, some (.val TB), some (iv (hend 0 bs : Int)), y23] = .ok ([y0, drw S n, y2, y3, y4, y5, y6, y7, some (.val TL), some (.val RQ), y10, y11, y12, y13, y14, y15, y16, y17, y18, y19, y20, some (.val TB), some (iv (hend 0 bs : Int)), y23], .nx) := by
    unfold S_law_24
    simp [cfOf, startE, fin_, outsOf, retag, findTag, dRet, dSeq, dEnd, dNever, dIte, dIf, dDrop, dFld, dSet, toB, dC, dName, dBl, dNot, dAnd, dOr, tAndD, tOrD, tNotD, dTru, dBoolC, boolD, dIsi, dIsi2, dIsC, tyN, isN, d2, d3, oV, oPl, aNil, aCons, aStar, seqOf, argB, argsB, ownPl, nodupB, wb, wb1, dCall, dMeth, oMake, oMake0, dSetFld, res, resAll, bV_val, bV_own, tD_lst, tD_ins, vals, dL, dLV, dTup, dLst, oLst, sz, ofO, leD, ltD, gtD, geD, i0D, iD, truD, isSq, lenD, dFz, R.bind, dAsg, gTp, gsCons, gsNil, gNm, dPar, setAll, dAug, dSetIx, isOwn, dApp, dFor, iVals, iRes, iSeq, dSl, pNo, pSome, cutD, dNeg, fdivD, modD, powD, mulA, mulI, addD, absD, intD, max2D, min2D, max3D, min3D, isND, notND, h2, hk]
  rw [seq_nx a1, seq_nx a2]
theorem hL (ns : List Int) (h : ns.length ≤ 63) : ∃ outs, F_law [.val (.frz (ns.map D.int))] = .ok outs (.bl true) := by
  have hcut : cutD (.frz (ns.map D.int)) none (some 63) = some (fI ns) := by
    have e : ∀ (n : Nat) (d : Nat), n ≤ 63 → HT.sIx n d (some 63) = n := fun n d hn => by
      have : HT.sIx n d (some ((63 : Nat) : Int)) = min 63 n := HT.sIx_nat n d 63
      have e3 : ((63 : Nat) : Int) = 63 := rfl
      rw [e3] at this
      omega
    simp only [cutD, fI, cut, List.length_map, sIx_no, List.drop_zero, Nat.sub_zero, e ns.length ns.length h]
    rw [List.take_of_length_le (by simp)]
  have s0 : S_law_0 [some (.val (.frz (ns.map D.int))), none, none, none, none, none, none, none, none, none, none, none, none, none, none, none, none, none, none, none, none, none, none, none] = .ok ([some (.val (.frz (ns.map D.int))), drw ns 0, none, none, none, none, none, none, none, none, none, none, none, none, none, none, none, none, none, none, none, none, none, none], .nx) := by
    unfold S_law_0
    simp [cfOf, startE, fin_, outsOf, retag, findTag, dRet, dSeq, dEnd, dNever, dIte, dIf, dDrop, dFld, dSet, toB, dC, dName, dBl, dNot, dAnd, dOr, tAndD, tOrD, tNotD, dTru, dBoolC, boolD, dIsi, dIsi2, dIsC, tyN, isN, d2, d3, oV, oPl, aNil, aCons, aStar, argB, argsB, ownPl, nodupB, wb, wb1, dCall, dMeth, oMake, oMake0, dSetFld, res, resAll, bV_val, bV_own, tD_lst, tD_ins, vals, dL, dLV, dTup, dLst, oLst, sz, ofO, leD, ltD, gtD, geD, i0D, iD, truD, isSq, dFz, R.bind, dAsg, gTp, gsCons, gsNil, gNm, dPar, setAll, dAug, dSetIx, isOwn, dApp, dFor, iVals, iRes, iSeq, dSl, pNo, pSome, dNeg, fdivD, modD, powD, mulA, mulI, absD, intD, max2D, min2D, max3D, min3D, isND, notND, hcut]
  obtain ⟨ρ2, a1, a2⟩ := st18 (S := ns) (y0 := some (.val (.frz (ns.map D.int)))) [some (.val (.frz (ns.map D.int))), drw ns 0, none, none, none, none, none, none, none, none, none, none, none, none, none, none, none, none, none, none, none, none, none, none]
    ⟨0, none, none, none, none, none, none, none, none, none, none, none, none, none, none, none, none, none, none, none, none, none, none, by omega, rfl, rfl, rfl, rfl, rfl⟩
  obtain ⟨n, y2, y3, y4, y5, y6, y7, y8, y9, y10, y11, y12, y13, y14, y15, y16, y17, y18, y19, y20, y21, y22, y23, hn, _, _, _, _, rfl⟩ := a2
  have s19 : ∀ y0 : Option B, S_law_19 [y0, drw ns n, y2, y3, y4, y5, y6, y7, y8, y9, y10, y11, y12, y13, y14, y15, y16, y17, y18, y19, y20, y21, y22, y23] = .ok ([y0, drw ns n, y2, y3, y4, y5, y6, y7, y8, y9, y10, y11, y12, y13, y14, y15, y16, y17, y18, y19, y20, some (.val (mT [])), some (iv (hend 0 [] : Int)), y23], .nx) := fun y0 => by
    unfold S_law_19
    simp [cfOf, startE, fin_, outsOf, retag, findTag, dRet, dSeq, dEnd, dNever, dIte, dIf, dDrop, dFld, dSet, toB, dC, dName, dBl, dNot, dAnd, dOr, tAndD, tOrD, tNotD, dTru, dBoolC, boolD, dIsi, dIsi2, dIsC, tyN, isN, d2, d3, oV, oPl, aNil, aCons, aStar, seqOf, argB, argsB, ownPl, nodupB, wb, wb1, dCall, dMeth, oMake, oMake0, dSetFld, res, resAll, bV_val, bV_own, tD_lst, tD_ins, vals, dL, dLV, dTup, dLst, oLst, sz, ofO, leD, ltD, gtD, geD, i0D, iD, truD, isSq, lenD, dFz, R.bind, dAsg, gTp, gsCons, gsNil, gNm, dPar, setAll, dAug, dSetIx, isOwn, dApp, dFor, iVals, iRes, iSeq, dSl, pNo, pSome, cutD, dNeg, fdivD, modD, powD, mulA, mulI, addD, absD, intD, max2D, min2D, max3D, min3D, isND, notND, hend, mT]
  obtain ⟨ρ3, b1, b2⟩ := st22 (S := ns) [some (.val (.frz (ns.map D.int))), drw ns n, y2, y3, y4, y5, y6, y7, y8, y9, y10, y11, y12, y13, y14, y15, y16, y17, y18, y19, y20, some (.val (mT [])), some (iv (hend 0 [] : Int)), y23] ⟨n, [], some (.val (.frz (ns.map D.int))), y2, y3, y4, y5, y6, y7, y8, y9, y10, y11, y12, y13, y14, y15, y16, y17, y18, y19, y20, y23, hn, trivial, rfl, rfl⟩
  obtain ⟨ρ4, c1⟩ := tail_ok ρ3 b2
  have hD : D_law [some (.val (.frz (ns.map D.int))), none, none, none, none, none, none, none, none, none, none, none, none, none, none, none, none, none, none, none, none, none, none, none] = .ok (ρ4, .rt (.bl true)) := by
    unfold D_law
    rw [seq_nx s0, seq_nx a1, seq_nx (s19 _), seq_nx b1]
    exact c1
  generalize ns.map D.int = SS at hD
  refine ⟨[none], ?_⟩
  simp [F_law, cfOf, startE, retag, fin_, hD, outsOf]
end A
end
theorem PySem.Challenge.cw_neverlies_k94_looks_tie_holds : PySem.Challenge.rw_neverlies_k94_looks_tie.Holds := by
  exact ⟨by kernel_rfl, A.holds_of A.hL⟩
