import PyProof.Rows.All
import Wide.All
import OpenK.AllK
import Wide.FinOn
import HandS.ForMost
import HandS.Flow
import HandS.TupAny
import HandS.TupMul
import HandS.Wide
import HandS.IsInst
import HandS.NoneIn
import KE.DataEq
import KE.LtData
import KE.SortData
import HandS.More
import KE.KIsAll
import HandS.SetKeys
import HandS.Star
import HandS.TryOnly
import HandS.Iter
import HandS.Zip
import HandS.Comp
import HandS.Words
import HandS.Style
import PyProof.Rows.RuleB_pow
import HandS.Property
import HandS.ClsMeth
import HandS.MakeKwOnly
import HandS.DictComp
import HandS.Set
import HandS.SetFor
import HandS.Strs
import HandS.Defaults
import HandS.RaiseMore
import PySem.Challenge.RW_fewtouched_k31_views_of_pieces
set_option Elab.async false
set_option linter.all false
set_option maxRecDepth 100000
set_option maxHeartbeats 1000000
/-! FtA: plain data D, how a value of the layer stands for it, the slots of a frame as plain data, and what a reading says. -/
namespace Ft
open PySem PySem.Spec PyProof.Rows L2

/-- plain data -/
inductive D where
  | non
  | bl (b : Bool)
  | int (i : Int)
  | str (x : Str)
  | tup (ds : List D)
  | lst (ds : List D)
  | dct (kvs : List (Key × D))
  | dcT (kvs : List (List Key × D))
  | set (ds : List D)
  | obj (c : Nat) (fs : List (Nat × D))
  /-- a class or a def of the module, by its number -/
  | atm (n : Nat)
  /-- the law's script: a list of ints that nothing changes (it may be one of the written part's own) -/
  | scr (ns : List Int)

def kD : Key → D
  | .inl i => .int i
  | .inr x => .str x

/-- what is fixed of a program: its written part, its classes' places, its attributes' names -/
structure Pg where
  K : PySem.W.Frag
  cls : Nat → Addr
  nm : Nat → Str
  atm : Nat → Addr

/-- frozen: it stands so for ever -/
def Fz (H : Hp) (a : Addr) (u : HO) : Prop := ∃ o, H a = some (.frz o u)
/-- a list that nothing changes, perhaps one of the written part's own -/
def ScrL (K : PySem.W.Frag) (H : Hp) (a : Addr) (xs : List V) : Prop := Fz H a (.lst xs) ∨
  ∃ (o : Obj) (its : Array Value) (n : Nat), K.lookup a = some o ∧ o.cls = .type "list" ∧ o.dict = none ∧ o.data = .seq its n ∧ its.size ≤ sizeLine ∧ Vals xs its.toList
def LstF (H : Hp) (a : Addr) (xs : List V) : Prop := Fz H a (.lst xs)

mutual
inductive Rep (G : Pg) (H : Hp) : V → D → Prop
  | non : Rep G H .non .non
  | bl (b : Bool) : Rep G H (.bl b) (.bl b)
  | int (i : Int) : Rep G H (.int i) (.int i)
  | str (x : Str) : Rep G H (.str x) (.str x)
  | atm (n : Nat) : Rep G H (.ref (G.atm n)) (.atm n)
  | scr {a : Addr} {ns : List Int} : ScrL G.K H a (ns.map V.int) → Rep G H (.ref a) (.scr ns)
  | tup {a : Addr} {vs : List V} {ds : List D} : SqT G.K H a vs → Reps G H vs ds → Rep G H (.ref a) (.tup ds)
  | lst {a : Addr} {vs : List V} {ds : List D} : LstF H a vs → Reps G H vs ds → Rep G H (.ref a) (.lst ds)
  | dK {a : Addr} {kvs : List (Key × V)} {ds : List (Key × D)} : Fz H a (.dK kvs) → RepK G H kvs ds → Rep G H (.ref a) (.dct ds)
  | dT {a : Addr} {kvs : List (List Key × V)} {ds : List (List Key × D)} : Fz H a (.dT kvs) → RepT G H kvs ds → Rep G H (.ref a) (.dcT ds)
  | obj {a dx : Addr} {c : Nat} {fs : List (Str × V)} {ds : List (Nat × D)} : Fz H a (.ins (G.cls c) dx fs) → RepF G H fs ds → Rep G H (.ref a) (.obj c ds)
inductive Reps (G : Pg) (H : Hp) : List V → List D → Prop
  | nil : Reps G H [] []
  | cons {v : V} {d : D} {vs : List V} {ds : List D} : Rep G H v d → Reps G H vs ds → Reps G H (v :: vs) (d :: ds)
inductive RepK (G : Pg) (H : Hp) : List (Key × V) → List (Key × D) → Prop
  | nil : RepK G H [] []
  | cons {k : Key} {v : V} {d : D} {vs : List (Key × V)} {ds : List (Key × D)} : Rep G H v d → RepK G H vs ds → RepK G H ((k, v) :: vs) ((k, d) :: ds)
inductive RepT (G : Pg) (H : Hp) : List (List Key × V) → List (List Key × D) → Prop
  | nil : RepT G H [] []
  | cons {k : List Key} {v : V} {d : D} {vs : List (List Key × V)} {ds : List (List Key × D)} : Rep G H v d → RepT G H vs ds → RepT G H ((k, v) :: vs) ((k, d) :: ds)
inductive RepF (G : Pg) (H : Hp) : List (Str × V) → List (Nat × D) → Prop
  | nil : RepF G H [] []
  | cons {i : Nat} {v : V} {d : D} {vs : List (Str × V)} {ds : List (Nat × D)} : Rep G H v d → RepF G H vs ds → RepF G H ((G.nm i, v) :: vs) ((i, d) :: ds)
end

/-- what never changes stays -/
structure Ext (H H' : Hp) : Prop where
  tup : ∀ a vs, H a = some (.tup vs) → H' a = some (.tup vs)
  frz : ∀ a o u, H a = some (.frz o u) → H' a = some (.frz o u)
theorem Ext.refl {H : Hp} : Ext H H := ⟨fun _ _ e => e, fun _ _ _ e => e⟩
theorem Ext.trans {H1 H2 H3 : Hp} (a : Ext H1 H2) (b : Ext H2 H3) : Ext H1 H3 := ⟨fun x vs e => b.tup x vs (a.tup x vs e), fun x o u e => b.frz x o u (a.frz x o u e)⟩
/-- all that is tracked stays -/
def Grow (H H' : Hp) : Prop := ∀ a u, H a = some u → H' a = some u
theorem Grow.refl {H : Hp} : Grow H H := fun _ _ e => e
theorem Grow.trans {H1 H2 H3 : Hp} (a : Grow H1 H2) (b : Grow H2 H3) : Grow H1 H3 := fun x u e => b x u (a x u e)
theorem Grow.ext {H H' : Hp} (g : Grow H H') : Ext H H' := ⟨fun a _ e => g a _ e, fun a _ _ e => g a _ e⟩
theorem Grow.upd {H : Hp} {a : Addr} {u : HO} (h : H a = none) : Grow H (upd H a u) := fun b w e => by
  rw [upd_ne (ne_of_none e h)]; exact e

section
variable {G : Pg} {H H' : Hp}
theorem Fz.ext (x : Ext H H') {a : Addr} {u : HO} (h : Fz H a u) : Fz H' a u := let ⟨o, e⟩ := h; ⟨o, x.frz a o u e⟩
theorem Fz.rd {a : Addr} {u : HO} (h : Fz H a u) : Rd H a u := .inr h
theorem LstF.ext (x : Ext H H') {a : Addr} {xs : List V} (h : LstF H a xs) : LstF H' a xs := Fz.ext x h
theorem sqT_ext (x : Ext H H') {K : PySem.W.Frag} {a : Addr} {xs : List V} (h : SqT K H a xs) : SqT K H' a xs := by
  rcases h with (h | ⟨o, h⟩) | h
  · exact .inl (.inl (x.tup _ _ h))
  · exact .inl (.inr ⟨o, x.frz _ _ _ h⟩)
  · exact .inr h
theorem sqL_ext (x : Ext H H') {K : PySem.W.Frag} {a : Addr} {xs : List V} (h : ScrL K H a xs) : ScrL K H' a xs := by
  rcases h with ⟨o, h⟩ | h
  · exact .inl ⟨o, x.frz _ _ _ h⟩
  · exact .inr h
theorem ScrL.sq {K : PySem.W.Frag} {a : Addr} {xs : List V} (h : ScrL K H a xs) : SqL K H a xs := by
  rcases h with ⟨o, h⟩ | h
  · exact .inl (.inr ⟨o, h⟩)
  · exact .inr h
mutual
theorem Rep.ext (x : Ext H H') : ∀ {v : V} {d : D}, Rep G H v d → Rep G H' v d
  | _, _, .non => .non
  | _, _, .bl b => .bl b
  | _, _, .int i => .int i
  | _, _, .str z => .str z
  | _, _, .atm n => .atm n
  | _, _, .scr h => .scr (sqL_ext x h)
  | _, _, .tup h r => .tup (sqT_ext x h) (Reps.ext x r)
  | _, _, .lst h r => .lst (h.ext x) (Reps.ext x r)
  | _, _, .dK h r => .dK (h.ext x) (RepK.ext x r)
  | _, _, .dT h r => .dT (h.ext x) (RepT.ext x r)
  | _, _, .obj h r => .obj (h.ext x) (RepF.ext x r)
theorem Reps.ext (x : Ext H H') : ∀ {vs : List V} {ds : List D}, Reps G H vs ds → Reps G H' vs ds
  | _, _, .nil => .nil
  | _, _, .cons r t => .cons (Rep.ext x r) (Reps.ext x t)
theorem RepK.ext (x : Ext H H') : ∀ {vs : List (Key × V)} {ds : List (Key × D)}, RepK G H vs ds → RepK G H' vs ds
  | _, _, .nil => .nil
  | _, _, .cons r t => .cons (Rep.ext x r) (RepK.ext x t)
theorem RepT.ext (x : Ext H H') : ∀ {vs : List (List Key × V)} {ds : List (List Key × D)}, RepT G H vs ds → RepT G H' vs ds
  | _, _, .nil => .nil
  | _, _, .cons r t => .cons (Rep.ext x r) (RepT.ext x t)
theorem RepF.ext (x : Ext H H') : ∀ {vs : List (Str × V)} {ds : List (Nat × D)}, RepF G H vs ds → RepF G H' vs ds
  | _, _, .nil => .nil
  | _, _, .cons r t => .cons (Rep.ext x r) (RepF.ext x t)
end
theorem Reps.length : ∀ {vs : List V} {ds : List D}, Reps G H vs ds → vs.length = ds.length
  | _, _, .nil => rfl
  | _, _, .cons _ t => congrArg Nat.succ (Reps.length t)
theorem Reps.get : ∀ {vs : List V} {ds : List D} {i : Nat} {d : D}, Reps G H vs ds → ds[i]? = some d → ∃ v, vs[i]? = some v ∧ Rep G H v d
  | _, _, _, _, .nil, e => by simp at e
  | _, _, 0, _, .cons r _, e => by simp at e; subst e; exact ⟨_, rfl, r⟩
  | _, _, i + 1, d, .cons _ t, e => by
    obtain ⟨v, h1, h2⟩ := Reps.get (i := i) (d := d) t (by simpa using e)
    exact ⟨v, by simpa using h1, h2⟩
theorem Reps.get' : ∀ {vs : List V} {ds : List D} {i : Nat} {v : V}, Reps G H vs ds → vs[i]? = some v → ∃ d, ds[i]? = some d ∧ Rep G H v d
  | _, _, _, _, .nil, e => by simp at e
  | _, _, 0, _, .cons r _, e => by simp at e; subst e; exact ⟨_, rfl, r⟩
  | _, _, i + 1, v, .cons _ t, e => by
    obtain ⟨d, h1, h2⟩ := Reps.get' (i := i) (v := v) t (by simpa using e)
    exact ⟨d, by simpa using h1, h2⟩
theorem Reps.append : ∀ {vs ws : List V} {ds es : List D}, Reps G H vs ds → Reps G H ws es → Reps G H (vs ++ ws) (ds ++ es)
  | _, _, _, _, .nil, s => s
  | _, _, _, _, .cons r t, s => .cons r (Reps.append t s)
theorem Reps.take : ∀ {vs : List V} {ds : List D} (n : Nat), Reps G H vs ds → Reps G H (vs.take n) (ds.take n)
  | _, _, 0, _ => .nil
  | _, _, _ + 1, .nil => .nil
  | _, _, n + 1, .cons r t => .cons r (Reps.take n t)
theorem Reps.drop : ∀ {vs : List V} {ds : List D} (n : Nat), Reps G H vs ds → Reps G H (vs.drop n) (ds.drop n)
  | _, _, 0, r => r
  | _, _, _ + 1, .nil => .nil
  | _, _, n + 1, .cons _ t => Reps.drop n t
theorem Reps.eraseIdx : ∀ {vs : List V} {ds : List D} (n : Nat), Reps G H vs ds → Reps G H (vs.eraseIdx n) (ds.eraseIdx n)
  | _, _, _, .nil => by simp; exact .nil
  | _, _, 0, .cons _ t => t
  | _, _, n + 1, .cons r t => .cons r (Reps.eraseIdx n t)
theorem Reps.set {v : V} {d : D} (q : Rep G H v d) : ∀ {vs : List V} {ds : List D} (n : Nat), Reps G H vs ds → Reps G H (vs.set n v) (ds.set n d)
  | _, _, _, .nil => .nil
  | _, _, 0, .cons _ t => .cons q t
  | _, _, n + 1, .cons r t => .cons r (Reps.set q n t)
end

/-- own: one name holds it, it may be changed -/
inductive OwnR (G : Pg) (H : Hp) : Addr → D → Prop
  | lst {a : Addr} {vs : List V} {ds : List D} : H a = some (.lst vs) → Reps G H vs ds → OwnR G H a (.lst ds)
  | dK {a : Addr} {kvs : List (Key × V)} {ds : List (Key × D)} : H a = some (.dK kvs) → RepK G H kvs ds → OwnR G H a (.dct ds)
  | dT {a : Addr} {kvs : List (List Key × V)} {ds : List (List Key × D)} : H a = some (.dT kvs) → RepT G H kvs ds → OwnR G H a (.dcT ds)
  | obj {a dx : Addr} {c : Nat} {fs : List (Str × V)} {ds : List (Nat × D)} : H a = some (.ins (G.cls c) dx fs) → RepF G H fs ds → OwnR G H a (.obj c ds)
theorem OwnR.there {G : Pg} {H : Hp} {a : Addr} {d : D} (h : OwnR G H a d) : ∃ u, H a = some u := by
  cases h with
  | lst e _ => exact ⟨_, e⟩
  | dK e _ => exact ⟨_, e⟩
  | dT e _ => exact ⟨_, e⟩
  | obj e _ => exact ⟨_, e⟩
/-- what own things stand at is neither frozen nor a tuple -/
theorem OwnR.mut {G : Pg} {H : Hp} {a : Addr} {d : D} (h : OwnR G H a d) : (∀ vs, H a ≠ some (.tup vs)) ∧ ∀ o u, H a ≠ some (.frz o u) := by
  cases h with
  | lst e _ => exact ⟨fun vs z => (by rw [e] at z; cases z), fun o u z => (by rw [e] at z; cases z)⟩
  | dK e _ => exact ⟨fun vs z => (by rw [e] at z; cases z), fun o u z => (by rw [e] at z; cases z)⟩
  | dT e _ => exact ⟨fun vs z => (by rw [e] at z; cases z), fun o u z => (by rw [e] at z; cases z)⟩
  | obj e _ => exact ⟨fun vs z => (by rw [e] at z; cases z), fun o u z => (by rw [e] at z; cases z)⟩
theorem OwnR.keep {G : Pg} {H H' : Hp} (x : Ext H H') {a : Addr} {d : D} (h : OwnR G H a d) (k : ∀ u, H a = some u → H' a = some u) : OwnR G H' a d := by
  cases h with
  | lst e r => exact .lst (k _ e) (r.ext x)
  | dK e r => exact .dK (k _ e) (r.ext x)
  | dT e r => exact .dT (k _ e) (r.ext x)
  | obj e r => exact .obj (k _ e) (r.ext x)
theorem Ext.upd {G : Pg} {H : Hp} {a : Addr} {d : D} {u : HO} (h : OwnR G H a d) : Ext H (L2.upd H a u) :=
  ⟨fun b vs e => by rw [upd_ne (fun z => h.mut.1 vs (by rw [← z]; exact e))]; exact e, fun b o w e => by rw [upd_ne (fun z => h.mut.2 o w (by rw [← z]; exact e))]; exact e⟩

/-! ### freezing -/
theorem objok_get {P : Program} {w : World} {H : Hp} {h : Heap} {a : Addr} {o : HO} (x : ObjOk P w H h a o) : ∃ ob, h.get? a = some ob := by
  cases o with
  | lst xs => obtain ⟨_, _, _, _, e⟩ := x; exact ⟨_, e⟩
  | tup xs => obtain ⟨_, _, _, ob, e, _⟩ := x; exact ⟨_, e⟩
  | dK kvs => obtain ⟨_, _, _, _, ob, _, _, e, _⟩ := x; exact ⟨_, e⟩
  | dT kvs => obtain ⟨_, _, _, _, ob, _, _, e, _⟩ := x; exact ⟨_, e⟩
  | set S n => obtain ⟨ob, _, _, _, e, _⟩ := x; exact ⟨_, e⟩
  | ins C dx fs => obtain ⟨_, _, _, e, _⟩ := x; exact ⟨_, e⟩
  | own y => exact x
  | xd fs => obtain ⟨_, ⟨_, _, _, e, _⟩, _⟩ := x; exact ⟨_, e⟩
  | rng lo hi => obtain ⟨_, _, _, e⟩ := x; exact ⟨_, e⟩
  | frz ob u => obtain ⟨e, _⟩ := x; exact ⟨_, e⟩
  | tbl ps => exact ⟨_, (show h.get? a = some _ from x)⟩
  | met f y => exact ⟨_, (show h.get? a = some _ from x)⟩
  | ext φ => obtain ⟨_, ⟨_, e⟩, _⟩ := x; exact ⟨_, e⟩
section
variable {X : Cx} {pins : List (Addr × Obj)} {σ : L2.St} {H : Hp} {s : Shared}
/-- what one may change is frozen as it stands: nothing happens in the machine -/
theorem freeze {a : Addr} {u : HO} (I : Inv X pins σ H s) (h : H a = some u) (nt : ∀ vs, u ≠ .tup vs) (nf : ∀ o w, u ≠ .frz o w) (nb : ∀ ps, u ≠ .tbl ps) (no : ∀ y, u ≠ .own y) :
    ∃ o, Inv X pins σ (upd H a (.frz o u)) s := by
  obtain ⟨o, ho⟩ := objok_get (I.hok a u h)
  have na : ∀ {b : Addr} {w : HO}, H b = some w → w ≠ u → b ≠ a := fun e d z => by rw [z, h] at e; exact d (Option.some.inj e).symm
  refine ⟨o, ⟨I.ok, I.os, I.bare, ⟨I.base.keep, I.base.slot, fun b ob e n hx => ?_, I.base.there, fun b xs e => ?_, fun b ob w e => ?_, fun b ps e => ?_⟩, I.loc, I.cell, ?_, fun x c e => ?_, fun p hp => ?_, fun b w e => ?_, I.len⟩⟩
  · have q := I.base.free b ob e n hx
    rw [upd_ne (fun z => by rw [z, h] at q; cases q)]
    exact q
  · have q := I.base.tups b xs e
    rw [upd_ne (na q (fun z => nt xs z.symm))]
    exact q
  · have q := I.base.frzs b ob w e
    rw [upd_ne (na q (fun z => nf ob w z.symm))]
    exact q
  · obtain ⟨more, q⟩ := I.base.tbls b ps e
    exact ⟨more, by rw [upd_ne (na q (fun z => nb _ z.symm))]; exact q⟩
  · rw [upd_ne (fun z => by have q := I.free; rw [z, h] at q; cases q)]
    exact I.free
  · have q := I.freeC x c e
    rw [upd_ne (fun z => by rw [z, h] at q; cases q)]
    exact q
  · obtain ⟨q1, q2, q3, q4, q5⟩ := I.pin p hp
    exact ⟨q1, by rw [upd_ne (fun z => by rw [z, h] at q2; cases q2)]; exact q2, q3, q4, q5⟩
  · have st : ∀ {c : Addr} {v : HO}, ObjOk X.prog X.w H s.heap c v → ObjOk X.prog X.w (upd H a (.frz o u)) s.heap c v := fun {c v} q =>
      q.stay (fun _ _ _ z => z) (fun y z => by rw [upd_ne (na z (fun zz => no c zz.symm))]; exact z) fun y ys z => by rw [upd_ne (na z (fun zz => nt ys zz.symm))]; exact z
    by_cases hb : b = a
    · subst hb
      rw [upd_same] at e
      cases e
      exact ⟨ho, st (I.hok b u h)⟩
    · rw [upd_ne hb] at e
      exact st (I.hok b w e)
end

/-! ### the slots of a frame -/
inductive Slot where
  | no
  | sh (d : D)
  | ow (d : D)
  | ln (d : D)
abbrev Rho := List Slot
/-- what an own (or lent) name holds -/
def Slot.own : Slot → Option D
  | .ow d => some d
  | .ln d => some d
  | _ => none
def Rho.own (ρ : Rho) (i : Nat) : Option D := (ρ[i]?).bind Slot.own
/-- what an expression hands back: a thing that never changes, a new thing of its own, or what an own name holds -/
inductive Hd where
  | val (d : D)
  | tmp (d : D)
  | slot (i : Nat)
inductive Res (α : Type) where
  | ok (a : α)
  | bad
def Res.bind {α β : Type} : Res α → (α → Res β) → Res β
  | .ok a, f => f a
  | .bad, _ => .bad
instance : Monad Res where
  pure := .ok
  bind := Res.bind
theorem Res.bind_ok {α β : Type} {x : Res α} {f : α → Res β} {b : β} (h : (x >>= f) = .ok b) : ∃ a, x = .ok a ∧ f a = .ok b := by
  cases x with
  | ok a => exact ⟨a, rfl, h⟩
  | bad => cases h
def Res.of {α : Type} : Option α → Res α
  | some a => .ok a
  | none => .bad
theorem Res.of_ok {α : Type} {o : Option α} {a : α} (h : Res.of o = .ok a) : o = some a := by
  cases o with
  | some b => cases h; rfl
  | none => cases h

/-- what is fixed through a frame: the program, the entry's heap, what was lent and may be changed (slot, address) -/
structure Ct where
  G : Pg
  H0 : Hp
  M : List (Nat × Addr)
def Ct.lent (C : Ct) (a : Addr) : Prop := ∃ i, (i, a) ∈ C.M

structure EnvR (C : Ct) (σ : L2.St) (H : Hp) (ρ : Rho) : Prop where
  sh : ∀ (i : Nat) (d : D), ρ[i]? = some (.sh d) → ∃ v, σ[i]? = some (some v) ∧ Rep C.G H v d
  ow : ∀ (i : Nat) (d : D), Rho.own ρ i = some d → ∃ a, σ[i]? = some (some (.ref a)) ∧ OwnR C.G H a d ∧ (C.H0 a = none ∨ (i, a) ∈ C.M)
  ln : ∀ (i : Nat) (a : Addr), (i, a) ∈ C.M → σ[i]? = some (some (.ref a)) ∧ ∃ d, ρ[i]? = some (.ln d)
  apart : ∀ (i j : Nat) (d e : D) (a : Addr), Rho.own ρ i = some d → Rho.own ρ j = some e → σ[i]? = some (some (.ref a)) → σ[j]? = some (some (.ref a)) → i = j
  frame : ∀ (a : Addr) (u : HO), C.H0 a = some u → ¬ C.lent a → H a = some u
  len : ρ.length = σ.length

def HR (C : Ct) (σ : L2.St) (H : Hp) (ρ : Rho) (v : V) : Hd → Prop
  | .val d => Rep C.G H v d
  | .tmp d => ∃ a, v = .ref a ∧ OwnR C.G H a d ∧ C.H0 a = none ∧ ∀ (i : Nat) (e : D), Rho.own ρ i = some e → σ[i]? ≠ some (some (.ref a))
  | .slot i => σ[i]? = some (some v)

/-- an expression's meaning over slots -/
abbrev EV := Rho → Res (Hd × Rho)
def tEv (C : Ct) (f : EV) : TE := fun σ H Q => ∃ ρ h ρ', EnvR C σ H ρ ∧ f ρ = .ok (h, ρ') ∧ ∀ v H', Ext H H' → EnvR C σ H' ρ' → HR C σ H' ρ' v h → Q v H'
/-- a test's -/
abbrev BV := Rho → Res (Bool × Rho)
def tBv (C : Ct) (f : BV) : TT := fun σ H Q => ∃ ρ b ρ', EnvR C σ H ρ ∧ f ρ = .ok (b, ρ') ∧ ∀ H', Ext H H' → EnvR C σ H' ρ' → Q b H'
/-- an argument list's -/
abbrev AV := Rho → Res (List Hd × Rho)
inductive HRs (C : Ct) (σ : L2.St) (H : Hp) (ρ : Rho) : List V → List Hd → Prop
  | nil : HRs C σ H ρ [] []
  | cons {v : V} {h : Hd} {vs : List V} {hs : List Hd} : HR C σ H ρ v h → HRs C σ H ρ vs hs → HRs C σ H ρ (v :: vs) (h :: hs)
def tAv (C : Ct) (f : AV) : TA := fun σ H Q => ∃ ρ hs ρ', EnvR C σ H ρ ∧ f ρ = .ok (hs, ρ') ∧ ∀ vs H', Ext H H' → EnvR C σ H' ρ' → HRs C σ H' ρ' vs hs → Q vs H'

section
variable {X : Cx} {e : Expr} {es : List Expr}
theorem pe_imp {t t' : TE} (h : PE X e t) (i : ∀ σ H Q, t' σ H Q → t σ H Q) : PE X e t' := ⟨fun pins s σ H Q I q => h.run pins s σ H Q I (i σ H Q q)⟩
theorem pt_imp {t t' : TT} (h : PT X e t) (i : ∀ σ H Q, t' σ H Q → t σ H Q) : PT X e t' := ⟨fun pins s σ H Q I q => h.run pins s σ H Q I (i σ H Q q)⟩
theorem pa_imp {t t' : TA} (h : PA X es t) (i : ∀ σ H Q, t' σ H Q → t σ H Q) : PA X es t' := ⟨fun pos pins s σ H Q I q => h.run pos pins s σ H Q I (i σ H Q q)⟩
/-- a step in what is known alone, behind an expression -/
theorem pe_ghost {t t' : TE} (h : PE X e t) (i : ∀ σ H Q, t' σ H Q → t σ H fun v H1 => ∀ pins s, Inv X pins σ H1 s → ∃ H2, Inv X pins σ H2 s ∧ Q v H2) : PE X e t' :=
  ⟨fun pins s σ H Q I q => thn (h.run pins s σ H _ I (i σ H Q q)) fun u s1 ⟨v, H1, I1, r, q1⟩ => let ⟨H2, I2, q2⟩ := q1 pins s1 I1; ⟨v, H2, I2, r, q2⟩⟩
end
end Ft
set_option Elab.async false
set_option linter.all false
set_option maxRecDepth 100000
set_option maxHeartbeats 1000000
/-! FtB: how what is known of the slots goes on. -/
namespace Ft
open PySem PySem.Spec PyProof.Rows L2

section
variable {C : Ct} {σ : L2.St} {H H' : Hp} {ρ : Rho}
theorem own_of_ow {i : Nat} {d : D} (h : ρ[i]? = some (.ow d)) : Rho.own ρ i = some d := by unfold Rho.own; rw [h]; rfl
theorem own_of_ln {i : Nat} {d : D} (h : ρ[i]? = some (.ln d)) : Rho.own ρ i = some d := by unfold Rho.own; rw [h]; rfl
theorem own_cases {i : Nat} {d : D} (h : Rho.own ρ i = some d) : ρ[i]? = some (.ow d) ∨ ρ[i]? = some (.ln d) := by
  unfold Rho.own at h
  cases e : ρ[i]? with
  | none => rw [e] at h; cases h
  | some x =>
    rw [e] at h
    cases x with
    | no => cases h
    | sh _ => cases h
    | ow _ => cases h; exact .inl rfl
    | ln _ => cases h; exact .inr rfl
/-- a lent thing is tracked -/
theorem EnvR.lentAt (R : EnvR C σ H ρ) {i : Nat} {a : Addr} (h : (i, a) ∈ C.M) : ∃ d, ρ[i]? = some (.ln d) ∧ OwnR C.G H a d := by
  obtain ⟨e, d, q⟩ := R.ln i a h
  obtain ⟨b, e2, o, _⟩ := R.ow i d (own_of_ln q)
  rw [e] at e2
  cases e2
  exact ⟨d, q, o⟩
theorem EnvR.fresh (R : EnvR C σ H ρ) {a : Addr} (h : H a = none) : C.H0 a = none := by
  cases e : C.H0 a with
  | none => rfl
  | some u =>
    by_cases l : C.lent a
    · obtain ⟨i, m⟩ := l
      obtain ⟨d, _, o⟩ := R.lentAt m
      obtain ⟨w, q⟩ := o.there
      rw [h] at q; cases q
    · have q := R.frame a u e l
      rw [h] at q; cases q
theorem EnvR.step (R : EnvR C σ H ρ) (x : Ext H H') (k : ∀ (i : Nat) (d : D) (a : Addr), Rho.own ρ i = some d → σ[i]? = some (some (.ref a)) → ∀ u, H a = some u → H' a = some u)
    (f : ∀ a u, C.H0 a = some u → ¬ C.lent a → H a = some u → H' a = some u) : EnvR C σ H' ρ where
  sh := fun i d e => let ⟨v, q, r⟩ := R.sh i d e; ⟨v, q, r.ext x⟩
  ow := fun i d e => let ⟨a, q, o, m⟩ := R.ow i d e; ⟨a, q, o.keep x (k i d a e q), m⟩
  ln := R.ln
  apart := R.apart
  frame := fun a u e l => f a u e l (R.frame a u e l)
  len := R.len
theorem EnvR.grow (R : EnvR C σ H ρ) (g : Grow H H') : EnvR C σ H' ρ := R.step g.ext (fun _ _ a _ _ u e => g a u e) fun a u _ _ e => g a u e
/-- another thing that nobody's slot holds is changed -/
theorem EnvR.other (R : EnvR C σ H ρ) (x : Ext H H') {a : Addr} (k : ∀ b, b ≠ a → H' b = H b) (h0 : C.H0 a = none) (n : ∀ (i : Nat) (e : D), Rho.own ρ i = some e → σ[i]? ≠ some (some (.ref a))) : EnvR C σ H' ρ :=
  R.step x (fun i d b e q u z => by rw [k b (fun y => n i d e (y ▸ q))]; exact z) fun b u e _ z => by rw [k b (fun y => by rw [y, h0] at e; cases e)]; exact z
theorem HR.step {v : V} {h : Hd} (r : HR C σ H ρ v h) (x : Ext H H') (k : ∀ d a, h = .tmp d → v = .ref a → ∀ u, H a = some u → H' a = some u) : HR C σ H' ρ v h := by
  cases h with
  | val d => exact Rep.ext x r
  | tmp d =>
    obtain ⟨a, e, o, h0, n⟩ := r
    exact ⟨a, e, o.keep x (k d a rfl e), h0, n⟩
  | slot i => exact r

theorem OwnR.frozen {G : Pg} {a : Addr} {d : D} {o : Obj} (h : OwnR G H a d) : ∃ u, H a = some u ∧ Rep G (upd H a (.frz o u)) (.ref a) d := by
  have x : ∀ u, Ext H (upd H a u) := fun u => Ext.upd h
  cases h with
  | lst e r => exact ⟨_, e, .lst ⟨o, upd_same⟩ (r.ext (x _))⟩
  | dK e r => exact ⟨_, e, .dK ⟨o, upd_same⟩ (r.ext (x _))⟩
  | dT e r => exact ⟨_, e, .dT ⟨o, upd_same⟩ (r.ext (x _))⟩
  | obj e r => exact ⟨_, e, .obj ⟨o, upd_same⟩ (r.ext (x _))⟩
/-- a thing of one's own is frozen -/
theorem OwnR.freeze {X : Cx} {pins : List (Addr × Obj)} {σ : L2.St} {s : Shared} {G : Pg} {a : Addr} {d : D} (I : Inv X pins σ H s) (h : OwnR G H a d) :
    ∃ H2, Inv X pins σ H2 s ∧ Ext H H2 ∧ Rep G H2 (.ref a) d ∧ ∀ b, b ≠ a → H2 b = H b := by
  have go : ∀ u, H a = some u → (∀ vs, u ≠ .tup vs) → (∀ o w, u ≠ .frz o w) → (∀ ps, u ≠ .tbl ps) → (∀ y, u ≠ .own y) → ∃ H2, Inv X pins σ H2 s ∧ Ext H H2 ∧ Rep G H2 (.ref a) d ∧ ∀ b, b ≠ a → H2 b = H b := fun u e n1 n2 n3 n4 => by
    obtain ⟨o, I2⟩ := Ft.freeze I e n1 n2 n3 n4
    obtain ⟨u', e', r⟩ := h.frozen (o := o)
    rw [e] at e'; cases e'
    exact ⟨_, I2, Ext.upd h, r, fun b hb => upd_ne hb⟩
  obtain ⟨u, e⟩ := h.there
  cases h with
  | lst e' _ => exact go _ e' (fun _ z => by cases z) (fun _ _ z => by cases z) (fun _ z => by cases z) fun _ z => by cases z
  | dK e' _ => exact go _ e' (fun _ z => by cases z) (fun _ _ z => by cases z) (fun _ z => by cases z) fun _ z => by cases z
  | dT e' _ => exact go _ e' (fun _ z => by cases z) (fun _ _ z => by cases z) (fun _ z => by cases z) fun _ z => by cases z
  | obj e' _ => exact go _ e' (fun _ z => by cases z) (fun _ _ z => by cases z) (fun _ z => by cases z) fun _ z => by cases z
end

/-! ### a new thing is frozen where it is used within an expression -/
def Hd.settle : Hd → Hd
  | .tmp d => .val d
  | h => h
def settle (f : EV) : EV := fun ρ => match f ρ with
  | .ok (h, ρ') => .ok (h.settle, ρ')
  | .bad => .bad
theorem settle_ok {f : EV} {ρ ρ' : Rho} {h : Hd} (e : settle f ρ = .ok (h, ρ')) : ∃ h0, f ρ = .ok (h0, ρ') ∧ h = h0.settle := by
  unfold settle at e
  split at e
  · rename_i q; cases e; exact ⟨_, q, rfl⟩
  · cases e
section
variable {X : Cx} {e : Expr} {C : Ct} {f : EV}
theorem pe_settle (h : PE X e (tEv C f)) : PE X e (tEv C (settle f)) := by
  refine pe_ghost h fun σ H Q q => ?_
  obtain ⟨ρ, h1, ρ', R, ev, k⟩ := q
  obtain ⟨h0, ev0, rfl⟩ := settle_ok ev
  refine ⟨ρ, h0, ρ', R, ev0, fun v H' x R' hr pins s I => ?_⟩
  cases h0 with
  | val d => exact ⟨H', I, k v H' x R' hr⟩
  | slot i => exact ⟨H', I, k v H' x R' hr⟩
  | tmp d =>
    obtain ⟨a, rfl, o, z, n⟩ := hr
    obtain ⟨H2, I2, x2, r2, k2⟩ := o.freeze I
    exact ⟨H2, I2, k _ H2 (x.trans x2) (R'.other x2 k2 z n) r2⟩
end

/-! ### a name that is handed on: what it held is frozen -/
def Hd.give (ρ : Rho) : Hd → Res (Hd × Rho)
  | .val d => .ok (.val d, ρ)
  | .tmp d => .ok (.val d, ρ)
  | .slot i => match ρ[i]? with
    | some (.ow d) => .ok (.val d, ρ.set i (.sh d))
    | _ => .bad
def give (f : EV) : EV := fun ρ => do
  let (h, ρ') ← f ρ
  h.give ρ'
theorem give_ok {f : EV} {ρ ρ' : Rho} {h : Hd} (e : give f ρ = .ok (h, ρ')) : ∃ h0 ρ0, f ρ = .ok (h0, ρ0) ∧ h0.give ρ0 = .ok (h, ρ') := by
  obtain ⟨⟨h0, ρ0⟩, e1, e2⟩ := Res.bind_ok e
  exact ⟨h0, ρ0, e1, e2⟩
theorem own_set {ρ : Rho} {i j : Nat} {s : Slot} {d : D} (h : Rho.own (ρ.set i s) j = some d) : (j = i ∧ s.own = some d) ∨ (j ≠ i ∧ Rho.own ρ j = some d) := by
  unfold Rho.own at h ⊢
  by_cases e : j = i
  · subst e
    by_cases l : j < ρ.length
    · rw [List.getElem?_set_self l] at h
      exact .inl ⟨rfl, h⟩
    · rw [List.getElem?_eq_none (by simpa using l)] at h
      cases h
  · rw [List.getElem?_set_ne (Ne.symm e)] at h
    exact .inr ⟨e, h⟩
section
variable {X : Cx} {e : Expr} {C : Ct} {σ : L2.St} {H H' : Hp} {ρ : Rho}
/-- the own slot i becomes a frozen one -/
theorem EnvR.shared (R : EnvR C σ H ρ) {i : Nat} {d : D} {a : Addr} (h : ρ[i]? = some (.ow d)) (e : σ[i]? = some (some (.ref a))) (x : Ext H H') (r : Rep C.G H' (.ref a) d) (k : ∀ b, b ≠ a → H' b = H b) : EnvR C σ H' (ρ.set i (.sh d)) := by
  obtain ⟨a', e', o, m⟩ := R.ow i d (own_of_ow h)
  rw [e] at e'; cases e'
  have m0 : C.H0 a = none := m.elim id fun z => by
    obtain ⟨_, d', q⟩ := R.ln i a z
    rw [h] at q; cases q
  refine ⟨fun j d' q => ?_, fun j d' q => ?_, fun j b q => ?_, fun j l d1 d2 b q1 q2 => ?_, fun b u q l => ?_, by rw [List.length_set]; exact R.len⟩
  · by_cases hj : j = i
    · subst hj
      have l : j < ρ.length := (List.getElem?_eq_some_iff.mp h).1
      rw [List.getElem?_set_self l] at q
      cases q
      exact ⟨_, e, r⟩
    · rw [List.getElem?_set_ne (Ne.symm hj)] at q
      obtain ⟨v, q1, q2⟩ := R.sh j d' q
      exact ⟨v, q1, q2.ext x⟩
  · rcases own_set q with ⟨_, z⟩ | ⟨hj, z⟩
    · cases z
    · obtain ⟨b, q1, q2, q3⟩ := R.ow j d' z
      refine ⟨b, q1, q2.keep x fun u w => ?_, q3⟩
      rw [k b fun y => hj (R.apart j i d' d a z (own_of_ow h) (y ▸ q1) e)]
      exact w
  · obtain ⟨q1, d', q2⟩ := R.ln j b q
    refine ⟨q1, d', ?_⟩
    rw [List.getElem?_set_ne (fun z => by subst z; rw [h] at q2; cases q2)]
    exact q2
  · rcases own_set q1 with ⟨_, z⟩ | ⟨_, z1⟩
    · cases z
    · rcases own_set q2 with ⟨_, z⟩ | ⟨_, z2⟩
      · cases z
      · exact R.apart j l d1 d2 b z1 z2
  · rw [k b fun y => by rw [y, m0] at q; cases q]
    exact R.frame b u q l
theorem pe_give {f : EV} (h : PE X e (tEv C f)) : PE X e (tEv C (give f)) := by
  refine pe_ghost h fun σ H Q q => ?_
  obtain ⟨ρ, h1, ρ', R, ev, k⟩ := q
  obtain ⟨h0, ρ0, ev0, eg⟩ := give_ok ev
  refine ⟨ρ, h0, ρ0, R, ev0, fun v H' x R' hr pins s I => ?_⟩
  cases h0 with
  | val d => cases eg; exact ⟨H', I, k v H' x R' hr⟩
  | slot i =>
    simp only [Hd.give] at eg
    split at eg
    · rename_i d q
      cases eg
      have hv : σ[i]? = some (some v) := hr
      obtain ⟨a, e1, o, _⟩ := R'.ow i d (own_of_ow q)
      rw [hv] at e1; cases e1
      obtain ⟨H2, I2, x2, r2, k2⟩ := o.freeze I
      exact ⟨H2, I2, k _ H2 (x.trans x2) (R'.shared q hv x2 r2 k2) r2⟩
    · cases eg
  | tmp d =>
    cases eg
    obtain ⟨a, rfl, o, z, n⟩ := hr
    obtain ⟨H2, I2, x2, r2, k2⟩ := o.freeze I
    exact ⟨H2, I2, k _ H2 (x.trans x2) (R'.other x2 k2 z n) r2⟩
end

/-! ### what stands behind a handle -/
def Slot.dat : Slot → Option D
  | .no => none
  | .sh d => some d
  | .ow d => some d
  | .ln d => some d
def look (ρ : Rho) : Hd → Option D
  | .val d => some d
  | .tmp d => some d
  | .slot i => (ρ[i]?).bind Slot.dat
/-- the value stands for d now -/
def TR (G : Pg) (H : Hp) (v : V) (d : D) : Prop := Rep G H v d ∨ ∃ a, v = .ref a ∧ OwnR G H a d
theorem HR.look {C : Ct} {σ : L2.St} {H : Hp} {ρ : Rho} {v : V} {h : Hd} {d : D} (R : EnvR C σ H ρ) (r : HR C σ H ρ v h) (e : look ρ h = some d) : TR C.G H v d := by
  cases h with
  | val d' => cases e; exact .inl r
  | tmp d' => cases e; obtain ⟨a, rfl, o, _⟩ := r; exact .inr ⟨a, rfl, o⟩
  | slot i =>
    have q : σ[i]? = some (some v) := r
    obtain ⟨s, es, ed⟩ := Option.bind_eq_some_iff.mp e
    have own : Rho.own ρ i = some d → TR C.G H v d := fun e => by
      obtain ⟨a, q1, o, _⟩ := R.ow i d e
      rw [q] at q1; cases q1
      exact .inr ⟨a, rfl, o⟩
    cases s with
    | no => cases ed
    | sh d' =>
      cases ed
      obtain ⟨v', q1, r'⟩ := R.sh i d es
      rw [q] at q1; cases q1
      exact .inl r'
    | ow d' => cases ed; exact own (by unfold Rho.own; rw [es]; rfl)
    | ln d' => cases ed; exact own (by unfold Rho.own; rw [es]; rfl)
/-- what an operation makes: told on its own -/
def NR (G : Pg) (H H' : Hp) (v : V) : Hd → Prop
  | .val d => Rep G H' v d
  | .tmp d => ∃ a, v = .ref a ∧ OwnR G H' a d ∧ H a = none
  | .slot _ => False
theorem NR.hr {C : Ct} {σ : L2.St} {H H' : Hp} {ρ : Rho} {v : V} {h : Hd} (R : EnvR C σ H ρ) (n : NR C.G H H' v h) : HR C σ H' ρ v h := by
  cases h with
  | val d => exact n
  | slot _ => exact n.elim
  | tmp d =>
    obtain ⟨a, rfl, o, z⟩ := n
    refine ⟨a, rfl, o, R.fresh z, fun i e q y => ?_⟩
    obtain ⟨b, q1, q2, _⟩ := R.ow i e q
    rw [y] at q1; cases q1
    obtain ⟨u, w⟩ := q2.there
    rw [z] at w; cases w
end Ft
set_option Elab.async false
set_option linter.all false
set_option maxRecDepth 100000
set_option maxHeartbeats 1000000
/-! FtC: operations over plain data, by values. -/
namespace Ft
open PySem PySem.Spec PyProof.Rows L2

section
variable {G : Pg} {H : Hp} {v : V}
theorem TR.inv_int {i : Int} (t : TR G H v (.int i)) : v = .int i := by
  rcases t with t | ⟨a, _, t⟩
  · cases t; rfl
  · cases t
theorem TR.inv_bl {b : Bool} (t : TR G H v (.bl b)) : v = .bl b := by
  rcases t with t | ⟨a, _, t⟩
  · cases t; rfl
  · cases t
theorem TR.inv_non (t : TR G H v .non) : v = .non := by
  rcases t with t | ⟨a, _, t⟩
  · cases t; rfl
  · cases t
theorem TR.inv_str {x : Str} (t : TR G H v (.str x)) : v = .str x := by
  rcases t with t | ⟨a, _, t⟩
  · cases t; rfl
  · cases t
theorem TR.inv_tup {ds : List D} (t : TR G H v (.tup ds)) : ∃ a vs, v = .ref a ∧ SqT G.K H a vs ∧ Reps G H vs ds := by
  rcases t with t | ⟨a, _, t⟩
  · cases t with
    | tup h r => exact ⟨_, _, rfl, h, r⟩
  · cases t
theorem TR.inv_lst {ds : List D} (t : TR G H v (.lst ds)) : ∃ a vs, v = .ref a ∧ Rd H a (.lst vs) ∧ Reps G H vs ds := by
  rcases t with t | ⟨a, e, t⟩
  · cases t with
    | lst h r => exact ⟨_, _, rfl, h.rd, r⟩
  · cases t with
    | lst h r => exact ⟨_, _, e, .inl h, r⟩
theorem TR.inv_scr {ns : List Int} (t : TR G H v (.scr ns)) : ∃ a, v = .ref a ∧ ScrL G.K H a (ns.map V.int) := by
  rcases t with t | ⟨a, _, t⟩
  · cases t with
    | scr h => exact ⟨_, rfl, h⟩
  · cases t
theorem TR.inv_dct {ds : List (Key × D)} (t : TR G H v (.dct ds)) : ∃ a kvs, v = .ref a ∧ Rd H a (.dK kvs) ∧ RepK G H kvs ds := by
  rcases t with t | ⟨a, e, t⟩
  · cases t with
    | dK h r => exact ⟨_, _, rfl, h.rd, r⟩
  · cases t with
    | dK h r => exact ⟨_, _, e, .inl h, r⟩
theorem TR.inv_dcT {ds : List (List Key × D)} (t : TR G H v (.dcT ds)) : ∃ a kvs, v = .ref a ∧ Rd H a (.dT kvs) ∧ RepT G H kvs ds := by
  rcases t with t | ⟨a, e, t⟩
  · cases t with
    | dT h r => exact ⟨_, _, rfl, h.rd, r⟩
  · cases t with
    | dT h r => exact ⟨_, _, e, .inl h, r⟩
end

section
variable {X : Cx} {pins : List (Addr × Obj)} {σ : L2.St} {H : Hp} {s : Shared}
/-- a list that may be read, as an object -/
theorem rdl {p : Addr} {xs : List V} (I : Inv X pins σ H s) (h : Rd H p (.lst xs)) : xs.length ≤ sizeLine ∧ ∃ (its : List Value) (n : Nat), Vals xs its ∧ xs.length = its.length ∧ s.heap.get? p = some { cls := .type "list", data := .seq its.toArray n } := by
  obtain ⟨z, its, n, r, e⟩ := h.ok I.hok
  exact ⟨z, its, n, r, r.length, e⟩
end

/-! ### the readings of operations over data -/
abbrev Op1 := D → Option Hd
abbrev Op2 := D → D → Option Hd
abbrev Ops := List D → Option Hd
def rO1 (G : Pg) (op : Op1) : V → Hp → VK → Prop := fun x H Q => ∃ d h, TR G H x d ∧ op d = some h ∧ ∀ v H', Grow H H' → NR G H H' v h → Q v H'
def rO2 (G : Pg) (op : Op2) : R2 := fun x y H Q => ∃ d e h, TR G H x d ∧ TR G H y e ∧ op d e = some h ∧ ∀ v H', Grow H H' → NR G H H' v h → Q v H'
inductive TRs (G : Pg) (H : Hp) : List V → List D → Prop
  | nil : TRs G H [] []
  | cons {v : V} {d : D} {vs : List V} {ds : List D} : TR G H v d → TRs G H vs ds → TRs G H (v :: vs) (d :: ds)
def rOs (G : Pg) (op : Ops) : List V → Hp → VK → Prop := fun xs H Q => ∃ ds h, TRs G H xs ds ∧ op ds = some h ∧ ∀ v H', Grow H H' → NR G H H' v h → Q v H'
theorem opr_imp {X : Cx} {f : Value → Value → Sem Value} {r r' : R2} (h : OpR X f r) (i : ∀ x y H Q, r' x y H Q → r x y H Q) : OpR X f r' := fun pins s σ H x y v u Q I rx ry q => h pins s σ H x y v u Q I rx ry (i x y H Q q)
theorem callr_imp {X : Cx} {f : Value} {r r' : List V → Hp → VK → Prop} (h : CallR X f r) (i : ∀ xs H Q, r' xs H Q → r xs H Q) : CallR X f r' := fun pins s σ H xs us Q I rx q => h pins s σ H xs us Q I rx (i xs H Q q)

/-- a new tuple, a new list -/
theorem nr_tup {G : Pg} {H : Hp} {p : Addr} {vs : List V} {ds : List D} (hp : H p = none) (r : Reps G H vs ds) : Grow H (upd H p (.tup vs)) ∧ NR G H (upd H p (.tup vs)) (.ref p) (.val (.tup ds)) :=
  have g := Grow.upd (u := .tup vs) hp
  ⟨g, .tup (SqT.of upd_same) (r.ext g.ext)⟩
theorem nr_lst {G : Pg} {H : Hp} {p : Addr} {vs : List V} {ds : List D} (hp : H p = none) (r : Reps G H vs ds) : Grow H (upd H p (.lst vs)) ∧ NR G H (upd H p (.lst vs)) (.ref p) (.tmp (.lst ds)) :=
  have g := Grow.upd (u := .lst vs) hp
  ⟨g, p, rfl, .lst upd_same (r.ext g.ext), hp⟩

theorem mil {n : Nat} (h : n ≤ 1000000) : n ≤ sizeLine := by rw [sizeLine_eq]; omega
/-! ### + - * // % ** -/
def dAdd : Op2
  | .int i, .int j => some (.val (.int (i + j)))
  | .str x, .str y => if x.length + y.length ≤ 1000000 then some (.val (.str (x ++ y))) else none
  | .lst a, .lst b => if a.length + b.length ≤ 1000000 then some (.tmp (.lst (a ++ b))) else none
  | .tup a, .tup b => if a.length + b.length ≤ 1000000 then some (.val (.tup (a ++ b))) else none
  | _, _ => none
section
variable {X : Cx} {G : Pg}
theorem opd_add (hK : X.K = G.K) : OpR X (binaryOp .Add) (rO2 G dAdd) := by
  intro pins s σ H x y v u Q I rx ry h
  obtain ⟨d, e, h, t1, t2, ev, k⟩ := h
  cases d <;> cases e <;> simp only [dAdd, reduceCtorEq] at ev
  · cases ev
    obtain rfl := t1.inv_int
    obtain rfl := t2.inv_int
    exact op_add pins s σ H _ _ v u Q I rx ry ⟨_, _, rfl, rfl, k _ H Grow.refl (.int _)⟩
  · split at ev
    · cases ev
      obtain rfl := t1.inv_str
      obtain rfl := t2.inv_str
      exact op_add_str pins s σ H _ _ v u Q I rx ry ⟨_, _, rfl, rfl, mil (by assumption), k _ H Grow.refl (.str _)⟩
    · cases ev
  · split at ev
    · rename_i as bs hl
      cases ev
      obtain ⟨a, xs, rfl, ha, ra⟩ := t1.inv_tup
      obtain ⟨b, ys, rfl, hb, rb⟩ := t2.inv_tup
      rw [← hK] at ha hb
      refine op_catA pins s σ H _ _ v u Q I rx ry ⟨a, b, xs, ys, rfl, rfl, ha, hb, by rw [ra.length, rb.length]; exact mil hl, fun e => ?_, fun e1 e2 => ?_, fun _ _ p hp => ?_⟩
      · subst e
        cases ra
        exact k _ H Grow.refl (.tup (hK ▸ hb) rb)
      · subst e2
        cases rb
        rw [List.append_nil] at k
        exact k _ H Grow.refl (.tup (hK ▸ ha) ra)
      · have z := nr_tup hp (ra.append rb)
        exact k _ _ z.1 z.2
    · cases ev
  · split at ev
    · rename_i as bs hl
      cases ev
      obtain ⟨a, xs, rfl, ha, ra⟩ := t1.inv_lst
      obtain ⟨b, ys, rfl, hb, rb⟩ := t2.inv_lst
      cases rx
      cases ry
      obtain ⟨z, its, n, r, hl1, e1⟩ := rdl I ha
      obtain ⟨z2, its2, n2, r2, hl2, e2⟩ := rdl I hb
      have q1 := ra.length
      have q2 := rb.length
      have hl := mil hl
      refine PySem.P.add_list e1 e2 ?_ (by rw [List.size_toArray, List.size_toArray]; omega)
      have ea : its.toArray ++ its2.toArray = (its ++ its2).toArray := by simp
      rw [ea]
      have z := nr_lst I.fresh (ra.append rb)
      exact ⟨.ref _, _, I.lnew (t' := s.toks) (r.append r2) (by rw [List.length_append]; omega), rfl, k _ _ z.1 z.2⟩
    · cases ev
def dSub : Op2
  | .int i, .int j => some (.val (.int (i - j)))
  | _, _ => none
theorem opd_sub : OpR X (binaryOp .Sub) (rO2 G dSub) := by
  refine opr_imp op_sub fun x y H Q h => ?_
  obtain ⟨d, e, h, t1, t2, ev, k⟩ := h
  cases d <;> cases e <;> simp only [dSub, reduceCtorEq] at ev
  cases ev
  exact ⟨_, _, t1.inv_int, t2.inv_int, k _ H Grow.refl (.int _)⟩
def in64 (i : Int) : Bool := decide (-(2 ^ 64) < i) && decide (i < 2 ^ 64)
theorem in64_of {i : Int} (h : in64 i = true) : -(2 ^ 64) < i ∧ i < 2 ^ 64 := by
  unfold in64 at h
  simp only [Bool.and_eq_true, decide_eq_true_eq] at h
  exact h
def dMul : Op2
  | .int i, .int j => if in64 i || in64 j then some (.val (.int (i * j))) else none
  | _, _ => none
theorem opd_mul : OpR X (binaryOp .Mult) (rO2 G dMul) := by
  intro pins s σ H x y v u Q I rx ry h
  obtain ⟨d, e, h, t1, t2, ev, k⟩ := h
  cases d <;> cases e <;> simp only [dMul, reduceCtorEq] at ev
  split at ev
  · rename_i hc
    cases ev
    obtain rfl := t1.inv_int
    obtain rfl := t2.inv_int
    refine op_mul pins s σ H _ _ v u Q I rx ry ⟨_, _, rfl, rfl, ?_, k _ H Grow.refl (.int _)⟩
    rw [Bool.or_eq_true] at hc
    exact hc.imp in64_of in64_of
  · cases ev
def dFdiv : Op2
  | .int i, .int j => if decide (0 < j) && decide (j < 1073741824) then some (.val (.int (i / j))) else none
  | _, _ => none
theorem opd_fdiv : OpR X (binaryOp .FloorDiv) (rO2 G dFdiv) := by
  refine opr_imp op_fdiv fun x y H Q h => ?_
  obtain ⟨d, e, h, t1, t2, ev, k⟩ := h
  cases d <;> cases e <;> simp only [dFdiv, reduceCtorEq] at ev
  split at ev
  · rename_i hc
    cases ev
    simp only [Bool.and_eq_true, decide_eq_true_eq] at hc
    exact ⟨_, _, t1.inv_int, t2.inv_int, hc, k _ H Grow.refl (.int _)⟩
  · cases ev
def dMod : Op2
  | .int i, .int j => if 0 < j then some (.val (.int (i % j))) else none
  | _, _ => none
theorem opd_mod : OpR X (binaryOp .Mod) (rO2 G dMod) := by
  refine opr_imp op_mod fun x y H Q h => ?_
  obtain ⟨d, e, h, t1, t2, ev, k⟩ := h
  cases d <;> cases e <;> simp only [dMod, reduceCtorEq] at ev
  split at ev
  · rename_i hc
    cases ev
    exact ⟨_, _, t1.inv_int, t2.inv_int, hc, k _ H Grow.refl (.int _)⟩
  · cases ev
def dNeg : Op1
  | .int i => some (.val (.int (-i)))
  | _ => none
theorem und_neg : UnR X (unaryOp .USub) (rO1 G dNeg) := by
  intro pins s σ H x v Q I rx h
  obtain ⟨d, h, t1, ev, k⟩ := h
  cases d <;> simp only [dNeg, reduceCtorEq] at ev
  cases ev
  obtain rfl := t1.inv_int
  exact un_neg pins s σ H _ v Q I rx ⟨_, rfl, k _ H Grow.refl (.int _)⟩
end
end Ft
set_option Elab.async false
set_option linter.all false
set_option maxRecDepth 100000
set_option maxHeartbeats 1000000
/-! FtD: data read off the heap as the library's own; comparisons. -/
namespace Ft
open PySem PySem.Spec PyProof.Rows L2

mutual
/-- as the library's data (no dict, no object within) -/
def D.py : D → Option PyData
  | .non => some .none
  | .bl b => some (.bool b)
  | .int i => some (.int i)
  | .str x => some (.str x)
  | .tup ds => (D.pys ds).map PyData.tuple
  | .lst ds => (D.pys ds).map PyData.list
  | .dct _ => none
  | .dcT _ => none
  | .set _ => none
  | .obj _ _ => none
  | .atm _ => none
  | .scr _ => none
def D.pys : List D → Option (List PyData)
  | [] => some []
  | d :: ds => match D.py d, D.pys ds with
    | some p, some ps => some (p :: ps)
    | _, _ => none
end
theorem pys_cons {d : D} {ds : List D} {q : List PyData} (h : D.pys (d :: ds) = some q) : ∃ p ps, D.py d = some p ∧ D.pys ds = some ps ∧ q = p :: ps := by
  rw [D.pys] at h
  split at h
  · rename_i p ps e1 e2
    exact ⟨p, ps, e1, e2, (Option.some.inj h).symm⟩
  · cases h
mutual
theorem py_plain : ∀ {d : D} {p : PyData}, D.py d = some p → p.plain = true
  | .non, _, h => by cases h; rfl
  | .bl _, _, h => by cases h; rfl
  | .int _, _, h => by cases h; rfl
  | .str _, _, h => by cases h; rfl
  | .tup ds, _, h => by
    rw [D.py] at h
    obtain ⟨ps, e, rfl⟩ := Option.map_eq_some_iff.mp h
    simp only [PyData.plain]
    exact pys_plain e
  | .lst ds, _, h => by
    rw [D.py] at h
    obtain ⟨ps, e, rfl⟩ := Option.map_eq_some_iff.mp h
    simp only [PyData.plain]
    exact pys_plain e
  | .dct _, _, h => by cases h
  | .dcT _, _, h => by cases h
  | .set _, _, h => by cases h
  | .obj _ _, _, h => by cases h
  | .atm _, _, h => by cases h
  | .scr _, _, h => by cases h
theorem pys_plain : ∀ {ds : List D} {ps : List PyData}, D.pys ds = some ps → PyData.plainAll ps = true
  | [], _, h => by cases h; rfl
  | d :: ds, _, h => by
    obtain ⟨p, ps, e1, e2, rfl⟩ := pys_cons h
    simp only [PyData.plainAll, Bool.and_eq_true]
    exact ⟨py_plain e1, pys_plain e2⟩
end
section
variable {X : Cx} {G : Pg} {pins : List (Addr × Obj)} {σ : L2.St} {H : Hp} {s : Shared}
theorem rd_reads {a : Addr} {vs : List V} (I : Inv X pins σ H s) (h : Rd H a (.lst vs)) : ∃ (its : List Value) (o : Obj) (n : Nat), Vals vs its ∧ s.heap.get? a = some o ∧ o.cls = .type "list" ∧ o.data = .seq its.toArray n := by
  obtain ⟨_, its, n, r, _, e⟩ := rdl I h
  exact ⟨its, _, n, r, e, rfl, rfl⟩
mutual
theorem Rep.reads (hK : X.K = G.K) (I : Inv X pins σ H s) : ∀ {v : V} {d : D}, Rep G H v d → ∀ {p : PyData} {u : Value}, D.py d = some p → RelV v u → ∃ as, Reads s.heap u p as
  | _, _, .non, _, _, e, r => by cases e; cases r; exact ⟨_, Reads.none⟩
  | _, _, .bl b, _, _, e, r => by cases e; cases r; exact ⟨_, Reads.bool b⟩
  | _, _, .int i, _, _, e, r => by cases e; obtain ⟨t, rfl⟩ := r; exact ⟨_, Reads.int i t⟩
  | _, _, .str x, _, _, e, r => by cases e; obtain ⟨t, rfl⟩ := r; exact ⟨_, Reads.str x t⟩
  | _, _, .tup h q, _, _, e, r => by
    rw [D.py] at e
    obtain ⟨ps, e0, rfl⟩ := Option.map_eq_some_iff.mp e
    cases r
    obtain ⟨its, rv, ⟨o, ho, hc, n, hd⟩, _⟩ := I.tuple (hK ▸ h)
    obtain ⟨as, z⟩ := Reps.reads hK I q e0 rv
    exact ⟨_, Reads.tuple ho hc hd z⟩
  | _, _, .lst h q, _, _, e, r => by
    rw [D.py] at e
    obtain ⟨ps, e0, rfl⟩ := Option.map_eq_some_iff.mp e
    cases r
    obtain ⟨its, o, n, rv, ho, hc, hd⟩ := rd_reads I h.rd
    obtain ⟨as, z⟩ := Reps.reads hK I q e0 rv
    exact ⟨_, Reads.list ho hc hd z⟩
  | _, _, .dK _ _, _, _, e, _ => by cases e
  | _, _, .dT _ _, _, _, e, _ => by cases e
  | _, _, .obj _ _, _, _, e, _ => by cases e
  | _, _, .atm _, _, _, e, _ => by cases e
  | _, _, .scr _, _, _, e, _ => by cases e
theorem Reps.reads (hK : X.K = G.K) (I : Inv X pins σ H s) : ∀ {vs : List V} {ds : List D}, Reps G H vs ds → ∀ {ps : List PyData} {us : List Value}, D.pys ds = some ps → Vals vs us → ∃ as, ReadsAll s.heap us ps as
  | _, _, .nil, _, _, e, r => by cases e; cases r; exact ⟨_, ReadsAll.nil⟩
  | _, _, .cons q t, _, _, e, r => by
    obtain ⟨p, ps, e1, e2, rfl⟩ := pys_cons e
    cases r with
    | cons r1 r2 =>
      obtain ⟨as, z1⟩ := Rep.reads hK I q e1 r1
      obtain ⟨bs, z2⟩ := Reps.reads hK I t e2 r2
      exact ⟨_, ReadsAll.cons z1 z2⟩
end
theorem TR.reads (hK : X.K = G.K) (I : Inv X pins σ H s) {v : V} {d : D} (t : TR G H v d) {p : PyData} {u : Value} (e : D.py d = some p) (r : RelV v u) : ∃ as, Reads s.heap u p as := by
  rcases t with t | ⟨a, rfl, t⟩
  · exact t.reads hK I e r
  · cases t with
    | lst h q =>
      rw [D.py] at e
      obtain ⟨ps, e0, rfl⟩ := Option.map_eq_some_iff.mp e
      cases r
      obtain ⟨its, o, n, rv, ho, hc, hd⟩ := rd_reads I (.inl h)
      obtain ⟨as, z⟩ := Reps.reads hK I q e0 rv
      exact ⟨_, Reads.list ho hc hd z⟩
    | dK _ _ => cases e
    | dT _ _ => cases e
    | obj _ _ => cases e
end

/-! ### == != in not in < <= > >= is -/
/-- data of few levels -/
def flatEnough (p : PyData) : Bool := decide (p.depth ≤ 60)
def dEqB (d e : D) : Option Bool := match D.py d, D.py e with
  | some p, some q => if flatEnough p then some (PyData.eqv p q) else none
  | _, _ => none
def dEq : Op2 := fun d e => (dEqB d e).map fun b => .val (.bl b)
def dNe : Op2 := fun d e => (dEqB d e).map fun b => .val (.bl (!b))
theorem dEqB_some {d e : D} {b : Bool} (h : dEqB d e = some b) : ∃ p q, D.py d = some p ∧ D.py e = some q ∧ p.depth ≤ 60 ∧ b = PyData.eqv p q := by
  unfold dEqB at h
  split at h
  · rename_i p q e1 e2
    split at h
    · rename_i hf
      exact ⟨p, q, e1, e2, of_decide_eq_true hf, (Option.some.inj h).symm⟩
    · cases h
  · cases h
section
variable {X : Cx} {G : Pg}
theorem opd_eq (hK : X.K = G.K) (hu : X.A.units + 64 < cLine) : OpR X (compareOp .Eq) (rO2 G dEq) := by
  intro pins s σ H x y v u Q I rx ry h
  obtain ⟨d, e, h, t1, t2, ev, k⟩ := h
  obtain ⟨b, ev0, rfl⟩ := Option.map_eq_some_iff.mp ev
  obtain ⟨p, q, e1, e2, hd, rfl⟩ := dEqB_some ev0
  obtain ⟨as, r1⟩ := t1.reads hK I e1 rx
  obtain ⟨bs, r2⟩ := t2.reads hK I e2 ry
  have hm : min p.depth q.depth ≤ p.depth := Nat.min_le_left _ _
  exact SeqAt.eq_plain r1 r2 (py_plain e1) (py_plain e2) (by omega) ⟨.bl _, H, I, rfl, k _ H Grow.refl (.bl _)⟩
theorem opd_ne (hK : X.K = G.K) (hu : X.A.units + 64 < cLine) : OpR X (compareOp .NotEq) (rO2 G dNe) := by
  intro pins s σ H x y v u Q I rx ry h
  obtain ⟨d, e, h, t1, t2, ev, k⟩ := h
  obtain ⟨b, ev0, rfl⟩ := Option.map_eq_some_iff.mp ev
  obtain ⟨p, q, e1, e2, hd, rfl⟩ := dEqB_some ev0
  obtain ⟨as, r1⟩ := t1.reads hK I e1 rx
  obtain ⟨bs, r2⟩ := t2.reads hK I e2 ry
  have hm : min p.depth q.depth ≤ p.depth := Nat.min_le_left _ _
  exact SeqAt.ne_plain r1 r2 (py_plain e1) (py_plain e2) (by omega) ⟨.bl _, H, I, rfl, k _ H Grow.refl (.bl _)⟩

/-- what is a key -/
def dKey : D → Option Key
  | .int i => some (.inl i)
  | .str x => some (.inr x)
  | _ => none
def dKeys : List D → Option (List Key)
  | [] => some []
  | d :: ds => match dKey d, dKeys ds with
    | some k, some ks => some (k :: ks)
    | _, _ => none
theorem dKey_some {d : D} {k : Key} (h : dKey d = some k) : d = kD k := by
  cases d <;> cases h <;> rfl
theorem dKeys_some : ∀ {ds : List D} {ks : List Key}, dKeys ds = some ks → ds = ks.map kD
  | [], _, h => by cases h; rfl
  | d :: ds, _, h => by
    rw [dKeys] at h
    split at h
    · rename_i k ks e1 e2
      cases h
      rw [List.map_cons, dKey_some e1, dKeys_some e2]
    · cases h
theorem dKey_kD (k : Key) : dKey (kD k) = some k := by cases k <;> rfl
theorem dKeys_kD : ∀ ks : List Key, dKeys (ks.map kD) = some ks
  | [] => rfl
  | k :: ks => by rw [List.map_cons, dKeys, dKey_kD, dKeys_kD ks]
theorem rep_kD {H : Hp} {v : V} {k : Key} (r : TR G H v (kD k)) : v = kV k := by
  cases k with
  | inl i => exact r.inv_int
  | inr x => exact r.inv_str
theorem repK_get {H : Hp} : ∀ {kvs : List (Key × V)} {ds : List (Key × D)}, RepK G H kvs ds → ∀ k, (∃ v d, valV kvs k = some v ∧ (ds.find? fun kv => decide (kv.1 = k)).map (·.2) = some d ∧ Rep G H v d) ∨ (valV kvs k = none ∧ (ds.find? fun kv => decide (kv.1 = k)).map (·.2) = none)
  | _, _, .nil, k => .inr ⟨rfl, rfl⟩
  | _, _, .cons (k := k0) (v := v) (d := d) r t, k => by
    by_cases e : k0 = k
    · subst e
      exact .inl ⟨v, d, valV_pos rfl, by simp, r⟩
    · rw [valV_neg e]
      have q := repK_get t k
      simpa [e] using q
def atK {α : Type} [DecidableEq α] (ds : List (α × D)) (k : α) : Option D := (ds.find? fun kv => decide (kv.1 = k)).map (·.2)
theorem dkey_in {H : Hp} {a : Addr} {kvs : List (Key × V)} (h : Rd H a (.dK kvs)) (k : Key) : DGet H a (kV k) (valV kvs k) := .inl ⟨kvs, k, h, rfl, rfl⟩

/-- x in c: a list, a tuple of data; a dict's key; a text in a text -/
def dInB : D → D → Option Bool
  | d, .lst es => match D.py d, D.pys es with
    | some p, some ps => if flatEnough p then some (ps.any fun y => PyData.eqv y p) else none
    | _, _ => none
  | d, .tup es => match D.py d, D.pys es with
    | some p, some ps => if flatEnough p then some (ps.any fun y => PyData.eqv y p) else none
    | _, _ => none
  | d, .dct es => match dKey d with
    | some k => some (atK es k).isSome
    | none => none
  | .str x, .str y => some (!(Builtin.Str.occurrences y x 0 y.length 1).isEmpty)
  | _, _ => none
def dIn : Op2 := fun d e => (dInB d e).map fun b => .val (.bl b)
def dNotIn : Op2 := fun d e => (dInB d e).map fun b => .val (.bl (!b))
theorem isSome_valV {H : Hp} {kvs : List (Key × V)} {ds : List (Key × D)} (r : RepK G H kvs ds) (k : Key) : (valV kvs k).isSome = (atK ds k).isSome := by
  rcases repK_get r k with ⟨v, d, e1, e2, _⟩ | ⟨e1, e2⟩
  · unfold atK; rw [e1, e2]; rfl
  · unfold atK; rw [e1, e2]; rfl
theorem opd_in_gen {neg : Bool} {op : CmpOp} (hop : op = if neg then .NotIn else .In) (hK : X.K = G.K) (hu : X.A.units + 64 < cLine) :
    OpR X (compareOp op) (rO2 G fun d e => (dInB d e).map fun b => .val (.bl (if neg then !b else b))) := by
  subst hop
  intro pins s σ H x y v u Q I rx ry h
  obtain ⟨d, e, h, t1, t2, ev, k⟩ := h
  obtain ⟨b, ev0, rfl⟩ := Option.map_eq_some_iff.mp ev
  have hm : ∀ p q : Nat, p ≤ 60 → X.A.units + 1 + min q p < cLine := fun p q hp => by
    have : min q p ≤ p := Nat.min_le_right _ _
    omega
  have fin : EP X pins σ Q (.bool (if neg then !b else b)) s := ⟨.bl _, H, I, rfl, k _ H Grow.refl (.bl _)⟩
  cases e <;> simp only [dInB] at ev0
  case lst es =>
    split at ev0
    · rename_i p ps e1 e2
      split at ev0
      · rename_i hf
        cases ev0
        obtain ⟨as, r1⟩ := t1.reads hK I e1 rx
        obtain ⟨bs, r2⟩ := t2.reads hK I (p := .list ps) (by rw [D.py, e2]; rfl) ry
        have hd : p.depth ≤ 60 := of_decide_eq_true hf
        cases neg with
        | false => exact SeqAt.in_list_data r2 r1 (pys_plain e2) (py_plain e1) (hm _ _ hd) fin
        | true => exact SeqAt.notIn_list_data r2 r1 (pys_plain e2) (py_plain e1) (hm _ _ hd) fin
      · cases ev0
    · cases ev0
  case tup es =>
    split at ev0
    · rename_i p ps e1 e2
      split at ev0
      · rename_i hf
        cases ev0
        obtain ⟨as, r1⟩ := t1.reads hK I e1 rx
        obtain ⟨bs, r2⟩ := t2.reads hK I (p := .tuple ps) (by rw [D.py, e2]; rfl) ry
        have hd : p.depth ≤ 60 := of_decide_eq_true hf
        cases neg with
        | false => exact SeqAt.in_tuple_data r2 r1 (pys_plain e2) (py_plain e1) (hm _ _ hd) fin
        | true => exact SeqAt.notIn_tuple_data r2 r1 (pys_plain e2) (py_plain e1) (hm _ _ hd) fin
      · cases ev0
    · cases ev0
  case dct es =>
    split at ev0
    · rename_i kk e1
      cases ev0
      obtain ⟨a, kvs, rfl, ha, ra⟩ := t2.inv_dct
      cases ry
      rw [dKey_some e1] at t1
      obtain rfl := rep_kD t1
      rw [← isSome_valV ra] at k
      cases neg with
      | false => exact d_in (by omega) I (dkey_in ha kk) rx fun s' I' => ⟨.bl _, H, I', rfl, k _ H Grow.refl (.bl _)⟩
      | true => exact d_notIn (by omega) I (dkey_in ha kk) rx fun s' I' => ⟨.bl _, H, I', rfl, k _ H Grow.refl (.bl _)⟩
    · cases ev0
  case str z =>
    cases d <;> simp only [reduceCtorEq] at ev0
    cases ev0
    obtain rfl := t1.inv_str
    obtain rfl := t2.inv_str
    cases neg with
    | false => exact op_in_str pins s σ H _ _ v u Q I rx ry ⟨_, _, rfl, rfl, k _ H Grow.refl (.bl _)⟩
    | true => exact op_notin_str pins s σ H _ _ v u Q I rx ry ⟨_, _, rfl, rfl, k _ H Grow.refl (.bl _)⟩
  all_goals (cases d <;> simp only [reduceCtorEq] at ev0)
theorem opd_in (hK : X.K = G.K) (hu : X.A.units + 64 < cLine) : OpR X (compareOp .In) (rO2 G dIn) := opd_in_gen (neg := false) rfl hK hu
theorem opd_notIn (hK : X.K = G.K) (hu : X.A.units + 64 < cLine) : OpR X (compareOp .NotIn) (rO2 G dNotIn) := opd_in_gen (neg := true) rfl hK hu

/-! order of ints and of texts -/
def dLt : Op2
  | .int i, .int j => some (.val (.bl (decide (i < j))))
  | .str x, .str y => some (.val (.bl (decide (x.cps.toList < y.cps.toList))))
  | _, _ => none
def dLe : Op2
  | .int i, .int j => some (.val (.bl (decide (i ≤ j))))
  | _, _ => none
def dGt : Op2
  | .int i, .int j => some (.val (.bl (decide (j < i))))
  | _, _ => none
def dGe : Op2
  | .int i, .int j => some (.val (.bl (decide (j ≤ i))))
  | _, _ => none
theorem opd_lt : OpR X (compareOp .Lt) (rO2 G dLt) := by
  intro pins s σ H x y v u Q I rx ry h
  obtain ⟨d, e, h, t1, t2, ev, k⟩ := h
  cases d <;> cases e <;> simp only [dLt, reduceCtorEq] at ev
  · cases ev
    obtain rfl := t1.inv_int
    obtain rfl := t2.inv_int
    exact op_lt pins s σ H _ _ v u Q I rx ry ⟨_, _, rfl, rfl, k _ H Grow.refl (.bl _)⟩
  · cases ev
    obtain rfl := t1.inv_str
    obtain rfl := t2.inv_str
    exact op_lt_str pins s σ H _ _ v u Q I rx ry ⟨_, _, rfl, rfl, k _ H Grow.refl (.bl _)⟩
theorem opd_le : OpR X (compareOp .LtE) (rO2 G dLe) := by
  refine opr_imp op_le fun x y H Q h => ?_
  obtain ⟨d, e, h, t1, t2, ev, k⟩ := h
  cases d <;> cases e <;> simp only [dLe, reduceCtorEq] at ev
  cases ev
  exact ⟨_, _, t1.inv_int, t2.inv_int, k _ H Grow.refl (.bl _)⟩
theorem opd_gt : OpR X (compareOp .Gt) (rO2 G dGt) := by
  refine opr_imp op_gt fun x y H Q h => ?_
  obtain ⟨d, e, h, t1, t2, ev, k⟩ := h
  cases d <;> cases e <;> simp only [dGt, reduceCtorEq] at ev
  cases ev
  exact ⟨_, _, t1.inv_int, t2.inv_int, k _ H Grow.refl (.bl _)⟩
theorem opd_ge : OpR X (compareOp .GtE) (rO2 G dGe) := by
  refine opr_imp op_ge fun x y H Q h => ?_
  obtain ⟨d, e, h, t1, t2, ev, k⟩ := h
  cases d <;> cases e <;> simp only [dGe, reduceCtorEq] at ev
  cases ev
  exact ⟨_, _, t1.inv_int, t2.inv_int, k _ H Grow.refl (.bl _)⟩
/-- is None, is not None -/
def dIsNon : Op2
  | .non, .non => some (.val (.bl true))
  | _, .non => some (.val (.bl false))
  | _, _ => none
def dIsNotNon : Op2
  | .non, .non => some (.val (.bl false))
  | _, .non => some (.val (.bl true))
  | _, _ => none
theorem TR.not_non {H : Hp} {d : D} (t : TR G H .non d) : d = .non := by
  rcases t with t | ⟨a, e, t⟩
  · cases t; rfl
  · cases e
theorem opd_is : OpR X (compareOp .Is) (rO2 G dIsNon) := by
  refine opr_imp op_isN fun x y H Q h => ?_
  obtain ⟨d, e, h, t1, t2, ev, k⟩ := h
  cases e <;> simp only [dIsNon, reduceCtorEq] at ev
  obtain rfl := t2.inv_non
  refine ⟨rfl, ?_⟩
  by_cases hx : x = .non
  · subst hx
    obtain rfl := t1.not_non
    cases ev
    rw [decide_eq_true rfl]
    exact k _ H Grow.refl (.bl _)
  · rw [decide_eq_false hx]
    cases d <;> simp only [dIsNon] at ev <;> first | exact absurd t1.inv_non hx | (cases ev; exact k _ H Grow.refl (.bl _))
theorem opd_isNot : OpR X (compareOp .IsNot) (rO2 G dIsNotNon) := by
  refine opr_imp op_notN fun x y H Q h => ?_
  obtain ⟨d, e, h, t1, t2, ev, k⟩ := h
  cases e <;> simp only [dIsNotNon, reduceCtorEq] at ev
  obtain rfl := t2.inv_non
  refine ⟨rfl, ?_⟩
  by_cases hx : x = .non
  · subst hx
    obtain rfl := t1.not_non
    cases ev
    rw [decide_eq_true rfl]
    exact k _ H Grow.refl (.bl _)
  · rw [decide_eq_false hx]
    cases d <;> simp only [dIsNotNon] at ev <;> first | exact absurd t1.inv_non hx | (cases ev; exact k _ H Grow.refl (.bl _))
end
end Ft
set_option Elab.async false
set_option linter.all false
set_option maxRecDepth 100000
set_option maxHeartbeats 1000000
/-! FtE: items, slices, built-in calls over plain data. -/
namespace Ft
open PySem PySem.Spec PyProof.Rows L2

section
variable {G : Pg} {H : Hp}
theorem reps_atI {vs : List V} {ds : List D} (r : Reps G H vs ds) {i : Int} {d : D} (h : atI ds i = some d) : ∃ v, atI vs i = some v ∧ Rep G H v d := by
  unfold atI at h ⊢
  rw [r.length]
  cases e : ixN ds.length i with
  | none => rw [e] at h; cases h
  | some j =>
    rw [e] at h
    exact r.get (i := j) h
/-- the items from lo to hi -/
def cut {α : Type} (xs : List α) (lo hi : Option Int) : List α := (xs.drop (HT.sIx xs.length 0 lo)).take (HT.sIx xs.length xs.length hi - HT.sIx xs.length 0 lo)
theorem reps_cut {vs : List V} {ds : List D} (r : Reps G H vs ds) (lo hi : Option Int) : Reps G H (cutV vs lo hi) (cut ds lo hi) := by
  unfold cutV cut
  rw [r.length]
  exact (r.drop _).take _
theorem cut_whole {α : Type} {xs : List α} {lo hi : Option Int} (h1 : HT.sIx xs.length 0 lo = 0) (h2 : HT.sIx xs.length xs.length hi = xs.length) : cut xs lo hi = xs := by
  unfold cut
  rw [h1, h2]
  simp
end
def dIx : Op2
  | .lst ds, .int i => (atI ds i).map .val
  | .tup ds, .int i => (atI ds i).map .val
  | .dct kvs, k => (dKey k).bind fun k => (atK kvs k).map .val
  | .scr ns, .int i => (atI (ns.map D.int) i).map .val
  | _, _ => none
section
variable {X : Cx} {G : Pg}
theorem reps_intsD {H : Hp} : ∀ ns : List Int, Reps G H (ns.map V.int) (ns.map D.int)
  | [] => .nil
  | n :: ns => .cons (.int n) (reps_intsD ns)
theorem ixd (hK : X.K = G.K) (hu : X.A.units + 64 < cLine) : IxR X (rO2 G dIx) := by
  intro value slice pins s σ H x y v u Q I rx ry h hs
  obtain ⟨d, e, h, t1, t2, ev, k⟩ := h
  cases d <;> simp only [dIx] at ev
  case lst ds =>
    cases e <;> simp only [reduceCtorEq] at ev
    obtain ⟨r, hr, rfl⟩ := Option.map_eq_some_iff.mp ev
    obtain ⟨a, vs, rfl, ha, ra⟩ := t1.inv_lst
    obtain rfl := t2.inv_int
    obtain ⟨w, hw, rw'⟩ := reps_atI ra hr
    exact ix_list value slice pins s σ H _ _ v u Q I rx ry ⟨a, vs, _, w, rfl, rfl, .inl ha, hw, k _ H Grow.refl rw'⟩ hs
  case scr ns =>
    cases e <;> simp only [reduceCtorEq] at ev
    obtain ⟨r, hr, rfl⟩ := Option.map_eq_some_iff.mp ev
    obtain ⟨a, rfl, ha⟩ := t1.inv_scr
    obtain rfl := t2.inv_int
    obtain ⟨w, hw, rw'⟩ := reps_atI (reps_intsD (H := H) ns) hr
    exact ix_list value slice pins s σ H _ _ v u Q I rx ry ⟨a, _, _, w, rfl, rfl, hK ▸ ha.sq, hw, k _ H Grow.refl rw'⟩ hs
  case tup ds =>
    cases e <;> simp only [reduceCtorEq] at ev
    obtain ⟨r, hr, rfl⟩ := Option.map_eq_some_iff.mp ev
    obtain ⟨a, vs, rfl, ha, ra⟩ := t1.inv_tup
    obtain rfl := t2.inv_int
    obtain ⟨w, hw, rw'⟩ := reps_atI ra hr
    exact ix_tup value slice pins s σ H _ _ v u Q I rx ry ⟨a, vs, _, w, rfl, rfl, hK ▸ ha, hw, k _ H Grow.refl rw'⟩ hs
  case dct kvs =>
    obtain ⟨kk, e1, ev⟩ := Option.bind_eq_some_iff.mp ev
    obtain ⟨r, hr, rfl⟩ := Option.map_eq_some_iff.mp ev
    obtain ⟨a, ws, rfl, ha, ra⟩ := t1.inv_dct
    cases rx
    rw [dKey_some e1] at t2
    obtain rfl := rep_kD t2
    rcases repK_get ra kk with ⟨w, d', g1, g2, g3⟩ | ⟨g1, g2⟩
    · have g : DGet H a (kV kk) (some w) := g1 ▸ dkey_in ha kk
      have hrr : d' = r := by
        unfold atK at hr
        rw [g2] at hr
        exact Option.some.inj hr
      subst hrr
      exact tail_any (ops := [.ref a, u]) (dict_typeIs I g) PySem.F.slot_dict_getitem.lookup (d_getItem (by omega) I g ry fun w' s' I' rw' => ⟨w, H, I', rw', k _ H Grow.refl g3⟩) hs
    · unfold atK at hr
      rw [g2] at hr
      cases hr
  all_goals (cases ev)
def dSl : D → Option Int → Option Int → Option Hd
  | .lst ds, lo, hi => some (.tmp (.lst (cut ds lo hi)))
  | .tup ds, lo, hi => some (.val (.tup (cut ds lo hi)))
  | _, _, _ => none
def rSld (G : Pg) : V → Option Int → Option Int → Hp → VK → Prop := fun x lo hi H Q => ∃ d h, TR G H x d ∧ dSl d lo hi = some h ∧ ∀ v H', Grow H H' → NR G H H' v h → Q v H'
theorem sld (hK : X.K = G.K) : SlR X (rSld G) := by
  intro pins s σ H x v vl vu lo hi sl Q I rx hs pl pu h
  obtain ⟨d, h, t1, ev, k⟩ := h
  cases d <;> simp only [dSl, reduceCtorEq] at ev
  case lst ds =>
    cases ev
    obtain ⟨a, vs, rfl, ha, ra⟩ := t1.inv_lst
    refine sl_list pins s σ H _ v vl vu lo hi sl Q I rx hs pl pu ⟨a, vs, rfl, .inl ha, fun p hp => ?_⟩
    have z := nr_lst hp (reps_cut ra lo hi)
    exact k _ _ z.1 z.2
  case tup ds =>
    cases ev
    obtain ⟨a, vs, rfl, ha, ra⟩ := t1.inv_tup
    refine sl_tupA pins s σ H _ v vl vu lo hi sl Q I rx hs pl pu ⟨a, vs, rfl, hK ▸ ha, fun ⟨h1, h2⟩ => ?_, fun _ p hp => ?_⟩
    · rw [ra.length] at h1 h2
      rw [cut_whole h1 h2] at k
      exact k _ H Grow.refl (.tup ha ra)
    · have z := nr_tup hp (reps_cut ra lo hi)
      exact k _ _ z.1 z.2

/-! ### built-in functions -/
theorem TRs.one {H : Hp} {vs : List V} {d : D} (t : TRs G H vs [d]) : ∃ v, vs = [v] ∧ TR G H v d := by
  cases t with
  | cons h t => cases t; exact ⟨_, rfl, h⟩
theorem TRs.two {H : Hp} {vs : List V} {d e : D} (t : TRs G H vs [d, e]) : ∃ v w, vs = [v, w] ∧ TR G H v d ∧ TR G H w e := by
  cases t with
  | cons h t =>
    obtain ⟨w, rfl, q⟩ := t.one
    exact ⟨_, _, rfl, h, q⟩
def dLen : Ops
  | [.str x] => if x.length ≤ 1000000 then some (.val (.int x.length)) else none
  | [.lst ds] => some (.val (.int ds.length))
  | [.tup ds] => some (.val (.int ds.length))
  | [.dct ds] => some (.val (.int ds.length))
  | [.scr ns] => some (.val (.int ns.length))
  | _ => none
theorem RepK.length {H : Hp} : ∀ {vs : List (Key × V)} {ds : List (Key × D)}, RepK G H vs ds → vs.length = ds.length
  | _, _, .nil => rfl
  | _, _, .cons _ t => congrArg Nat.succ (RepK.length t)
theorem calld_len (hK : X.K = G.K) : CallR X (.builtin "len") (rOs G dLen) := by
  intro pins s σ H xs us Q I r h
  obtain ⟨ds, h, t, ev, k⟩ := h
  unfold dLen at ev
  split at ev
  · split at ev
    · cases ev
      obtain ⟨v, rfl, t1⟩ := t.one
      obtain rfl := t1.inv_str
      exact call_len_str pins s σ H _ us Q I r ⟨_, rfl, mil (by assumption), k _ H Grow.refl (.int _)⟩
    · cases ev
  · cases ev
    obtain ⟨v, rfl, t1⟩ := t.one
    obtain ⟨a, vs, rfl, ha, ra⟩ := t1.inv_lst
    exact call_len_seq pins s σ H _ us Q I r ⟨a, vs, rfl, .inl (.inl ha), by rw [ra.length]; exact k _ H Grow.refl (.int _)⟩
  · cases ev
    obtain ⟨v, rfl, t1⟩ := t.one
    obtain ⟨a, vs, rfl, ha, ra⟩ := t1.inv_tup
    exact call_len_seq pins s σ H _ us Q I r ⟨a, vs, rfl, .inr (hK ▸ ha), by rw [ra.length]; exact k _ H Grow.refl (.int _)⟩
  · cases ev
    obtain ⟨v, rfl, t1⟩ := t.one
    obtain ⟨a, vs, rfl, ha, ra⟩ := t1.inv_dct
    obtain ⟨u, rfl, ru⟩ := vals1 r
    cases ru
    exact d_len I ha fun tk s' I' => ⟨.int _, H, I', ⟨tk, rfl⟩, by rw [ra.length]; exact k _ H Grow.refl (.int _)⟩
  · cases ev
    obtain ⟨v, rfl, t1⟩ := t.one
    obtain ⟨a, rfl, ha⟩ := t1.inv_scr
    exact call_len_seq pins s σ H _ us Q I r ⟨a, _, rfl, .inl (hK ▸ ha.sq), by rw [List.length_map]; exact k _ H Grow.refl (.int _)⟩
  · cases ev
def dList : Ops
  | [.lst ds] => some (.tmp (.lst ds))
  | [.tup ds] => some (.tmp (.lst ds))
  | [.dct kvs] => some (.tmp (.lst (kvs.map fun kv => kD kv.1)))
  | _ => none
theorem reps_keysD : ∀ {kvs : List (Key × V)} {ds : List (Key × D)} {H : Hp}, RepK G H kvs ds → Reps G H (kvs.map fun kv => kV kv.1) (ds.map fun kv => kD kv.1)
  | _, _, _, .nil => .nil
  | _, _, _, .cons (k := k) _ t => .cons (by cases k with
    | inl i => exact .int i
    | inr x => exact .str x) (reps_keysD t)
theorem calld_list (hc : X.calm = true) (hK : X.K = G.K) : CallR X (.type "list") (rOs G dList) := by
  intro pins s σ H xs us Q I r h
  obtain ⟨ds, h, t, ev, k⟩ := h
  unfold dList at ev
  split at ev
  · cases ev
    obtain ⟨v, rfl, t1⟩ := t.one
    obtain ⟨a, vs, rfl, ha, ra⟩ := t1.inv_lst
    exact call_list_of pins s σ H _ us Q I r ⟨a, vs, rfl, .inl (.inl ha), fun l hl => let z := nr_lst hl ra; k _ _ z.1 z.2⟩
  · cases ev
    obtain ⟨v, rfl, t1⟩ := t.one
    obtain ⟨a, vs, rfl, ha, ra⟩ := t1.inv_tup
    exact call_list_of pins s σ H _ us Q I r ⟨a, vs, rfl, .inr (hK ▸ ha), fun l hl => let z := nr_lst hl ra; k _ _ z.1 z.2⟩
  · cases ev
    obtain ⟨v, rfl, t1⟩ := t.one
    obtain ⟨a, kvs, rfl, ha, ra⟩ := t1.inv_dct
    exact call_listD hc pins s σ H _ us Q I r ⟨a, kvs, rfl, ha, fun l hl => let z := nr_lst hl (reps_keysD ra); k _ _ z.1 z.2⟩
  · cases ev
def dTuple : Ops
  | [.lst ds] => some (.val (.tup ds))
  | [.tup ds] => some (.val (.tup ds))
  | _ => none
theorem calld_tuple (hK : X.K = G.K) : CallR X (.type "tuple") (rOs G dTuple) := by
  refine callr_imp call_tuple_of fun xs H Q h => ?_
  obtain ⟨ds, h, t, ev, k⟩ := h
  unfold dTuple at ev
  split at ev
  · cases ev
    obtain ⟨v, rfl, t1⟩ := t.one
    obtain ⟨a, vs, rfl, ha, ra⟩ := t1.inv_lst
    exact ⟨a, vs, rfl, .inl ⟨.inl ha, fun l hl => let z := nr_tup hl ra; k _ _ z.1 z.2⟩⟩
  · cases ev
    obtain ⟨v, rfl, t1⟩ := t.one
    obtain ⟨a, vs, rfl, ha, ra⟩ := t1.inv_tup
    exact ⟨a, vs, rfl, .inr ⟨hK ▸ ha, k _ H Grow.refl (.tup ha ra)⟩⟩
  · cases ev
def dInt : Ops
  | [.int i] => some (.val (.int i))
  | [.bl b] => some (.val (.int (if b then 1 else 0)))
  | _ => none
theorem calld_int : CallR X (.type "int") (rOs G dInt) := by
  refine callr_imp call_int1 fun xs H Q h => ?_
  obtain ⟨ds, h, t, ev, k⟩ := h
  unfold dInt at ev
  split at ev
  · cases ev
    obtain ⟨v, rfl, t1⟩ := t.one
    obtain rfl := t1.inv_int
    exact .inl ⟨_, rfl, k _ H Grow.refl (.int _)⟩
  · cases ev
    obtain ⟨v, rfl, t1⟩ := t.one
    obtain rfl := t1.inv_bl
    exact .inr ⟨_, rfl, k _ H Grow.refl (.int _)⟩
  · cases ev
def dAbs : Ops
  | [.int i] => some (.val (.int (if i < 0 then -i else i)))
  | _ => none
theorem calld_abs : CallR X (.builtin "abs") (rOs G dAbs) := by
  refine callr_imp call_abs fun xs H Q h => ?_
  obtain ⟨ds, h, t, ev, k⟩ := h
  unfold dAbs at ev
  split at ev
  · cases ev
    obtain ⟨v, rfl, t1⟩ := t.one
    obtain rfl := t1.inv_int
    exact ⟨_, rfl, k _ H Grow.refl (.int _)⟩
  · cases ev
/-- the ints of a list -/
def D.ints : List D → Option (List Int)
  | [] => some []
  | .int i :: ds => (D.ints ds).map (i :: ·)
  | _ => none
theorem ints_of : ∀ {ds : List D} {ns : List Int}, D.ints ds = some ns → ds = ns.map .int
  | [], _, h => by cases h; rfl
  | d :: ds, ns, h => by
    cases d <;> simp only [D.ints, reduceCtorEq] at h
    obtain ⟨ms, e, rfl⟩ := Option.map_eq_some_iff.mp h
    rw [List.map_cons, ← ints_of e]
theorem reps_ints {H : Hp} : ∀ {vs : List V} {ns : List Int}, Reps G H vs (ns.map .int) → vs = ns.map V.int
  | _, [], r => by cases r; rfl
  | _, n :: ns, r => by
    cases r with
    | cons h t => cases h; rw [reps_ints t]; rfl
def leastOf : List Int → Option Int
  | [] => none
  | n :: ns => some (ns.foldl (fun a b => if b < a then b else a) n)
def greatestOf : List Int → Option Int
  | [] => none
  | n :: ns => some (ns.foldl (fun a b => if a < b then b else a) n)
theorem least_le : ∀ (ns : List Int) (n : Int), ns.foldl (fun a b => if b < a then b else a) n ≤ n ∧ ∀ y ∈ ns, ns.foldl (fun a b => if b < a then b else a) n ≤ y
  | [], n => ⟨Int.le_refl _, fun _ h => nomatch h⟩
  | m :: ns, n => by
    obtain ⟨h1, h2⟩ := least_le ns (if m < n then m else n)
    have e : (if m < n then m else n) ≤ n ∧ (if m < n then m else n) ≤ m := by split <;> omega
    refine ⟨Int.le_trans h1 e.1, fun y hy => ?_⟩
    rcases List.mem_cons.mp hy with rfl | hy
    · exact Int.le_trans h1 e.2
    · exact h2 y hy
theorem least_mem : ∀ (ns : List Int) (n : Int), ns.foldl (fun a b => if b < a then b else a) n ∈ n :: ns
  | [], n => by simp
  | m :: ns, n => by
    have h := least_mem ns (if m < n then m else n)
    rcases List.mem_cons.mp h with h | h
    · rw [List.foldl_cons, h]
      split
      · simp
      · simp
    · exact List.mem_cons_of_mem _ (List.mem_cons_of_mem _ h)
theorem least_is {ns : List Int} {m z : Int} (hz : leastOf ns = some z) (h1 : m ∈ ns) (h2 : ∀ y, y ∈ ns → m ≤ y) : m = z := by
  cases ns with
  | nil => cases hz
  | cons n ns =>
    have hz' : ns.foldl (fun a b => if b < a then b else a) n = z := Option.some.inj hz
    have a := least_mem ns n
    obtain ⟨b, c⟩ := least_le ns n
    rw [hz'] at a b c
    have q1 := h2 z a
    have q2 : z ≤ m := by
      rcases List.mem_cons.mp h1 with rfl | h1
      · exact b
      · exact c m h1
    omega
theorem great_le : ∀ (ns : List Int) (n : Int), n ≤ ns.foldl (fun a b => if a < b then b else a) n ∧ ∀ y ∈ ns, y ≤ ns.foldl (fun a b => if a < b then b else a) n
  | [], n => ⟨Int.le_refl _, fun _ h => nomatch h⟩
  | m :: ns, n => by
    obtain ⟨h1, h2⟩ := great_le ns (if n < m then m else n)
    have e : n ≤ (if n < m then m else n) ∧ m ≤ (if n < m then m else n) := by split <;> omega
    refine ⟨Int.le_trans e.1 h1, fun y hy => ?_⟩
    rcases List.mem_cons.mp hy with rfl | hy
    · exact Int.le_trans e.2 h1
    · exact h2 y hy
theorem great_mem : ∀ (ns : List Int) (n : Int), ns.foldl (fun a b => if a < b then b else a) n ∈ n :: ns
  | [], n => by simp
  | m :: ns, n => by
    have h := great_mem ns (if n < m then m else n)
    rcases List.mem_cons.mp h with h | h
    · rw [List.foldl_cons, h]
      split
      · simp
      · simp
    · exact List.mem_cons_of_mem _ (List.mem_cons_of_mem _ h)
theorem great_is {ns : List Int} {m z : Int} (hz : greatestOf ns = some z) (h1 : m ∈ ns) (h2 : ∀ y, y ∈ ns → y ≤ m) : m = z := by
  cases ns with
  | nil => cases hz
  | cons n ns =>
    have hz' : ns.foldl (fun a b => if a < b then b else a) n = z := Option.some.inj hz
    have a := great_mem ns n
    obtain ⟨b, c⟩ := great_le ns n
    rw [hz'] at a b c
    have q1 := h2 z a
    have q2 : m ≤ z := by
      rcases List.mem_cons.mp h1 with rfl | h1
      · exact b
      · exact c m h1
    omega
def dMax : Ops
  | [.int i, .int j] => some (.val (.int (if i < j then j else i)))
  | [.lst ds] => ((D.ints ds).bind greatestOf).map fun z => .val (.int z)
  | _ => none
def dMin : Ops
  | [.int i, .int j] => some (.val (.int (if j < i then j else i)))
  | [.lst ds] => ((D.ints ds).bind leastOf).map fun z => .val (.int z)
  | _ => none
theorem calld_max (hc : X.calm = true) : CallR X (.builtin "max") (rOs G dMax) := by
  intro pins s σ H xs us Q I r h
  obtain ⟨ds, h, t, ev, k⟩ := h
  unfold dMax at ev
  split at ev
  · cases ev
    obtain ⟨v, w, rfl, t1, t2⟩ := t.two
    obtain rfl := t1.inv_int
    obtain rfl := t2.inv_int
    exact call_max2 hc pins s σ H _ us Q I r ⟨_, _, rfl, k _ H Grow.refl (.int _)⟩
  · obtain ⟨z, hz, rfl⟩ := Option.map_eq_some_iff.mp ev
    obtain ⟨ns, hn, hz⟩ := Option.bind_eq_some_iff.mp hz
    obtain ⟨v, rfl, t1⟩ := t.one
    obtain ⟨a, vs, rfl, ha, ra⟩ := t1.inv_lst
    rw [ints_of hn] at ra
    obtain rfl := reps_ints ra
    refine cr_max hc pins s σ H _ us Q I r ⟨a, ns, rfl, .inl ha, ?_, fun m h1 h2 => ?_⟩
    · cases ns with
      | nil => cases hz
      | cons _ _ => exact Nat.succ_pos _
    · rw [great_is hz h1 h2]
      exact k _ H Grow.refl (.int _)
  · cases ev
theorem calld_min (hc : X.calm = true) : CallR X (.builtin "min") (rOs G dMin) := by
  intro pins s σ H xs us Q I r h
  obtain ⟨ds, h, t, ev, k⟩ := h
  unfold dMin at ev
  split at ev
  · cases ev
    obtain ⟨v, w, rfl, t1, t2⟩ := t.two
    obtain rfl := t1.inv_int
    obtain rfl := t2.inv_int
    exact call_min2 hc pins s σ H _ us Q I r ⟨_, _, rfl, k _ H Grow.refl (.int _)⟩
  · obtain ⟨z, hz, rfl⟩ := Option.map_eq_some_iff.mp ev
    obtain ⟨ns, hn, hz⟩ := Option.bind_eq_some_iff.mp hz
    obtain ⟨v, rfl, t1⟩ := t.one
    obtain ⟨a, vs, rfl, ha, ra⟩ := t1.inv_lst
    rw [ints_of hn] at ra
    obtain rfl := reps_ints ra
    refine cr_min hc pins s σ H _ us Q I r ⟨a, ns, rfl, .inl ha, ?_, fun m h1 h2 => ?_⟩
    · cases ns with
      | nil => cases hz
      | cons _ _ => exact Nat.succ_pos _
    · rw [least_is hz h1 h2]
      exact k _ H Grow.refl (.int _)
  · cases ev
def dSum : Ops
  | [.lst ds] => (D.ints ds).map fun ns => .val (.int ns.sum)
  | _ => none
theorem calld_sum (hc : X.calm = true) : CallR X (.builtin "sum") (rOs G dSum) := by
  refine callr_imp (cr_sum hc) fun xs H Q h => ?_
  obtain ⟨ds, h, t, ev, k⟩ := h
  unfold dSum at ev
  split at ev
  · obtain ⟨ns, hn, rfl⟩ := Option.map_eq_some_iff.mp ev
    obtain ⟨v, rfl, t1⟩ := t.one
    obtain ⟨a, vs, rfl, ha, ra⟩ := t1.inv_lst
    rw [ints_of hn] at ra
    obtain rfl := reps_ints ra
    exact ⟨a, ns, rfl, .inl ha, k _ H Grow.refl (.int _)⟩
  · cases ev
/-- the truths of a list -/
def D.bls : List D → Option (List Bool)
  | [] => some []
  | .bl i :: ds => (D.bls ds).map (i :: ·)
  | _ => none
theorem bls_of : ∀ {ds : List D} {ns : List Bool}, D.bls ds = some ns → ds = ns.map .bl
  | [], _, h => by cases h; rfl
  | d :: ds, ns, h => by
    cases d <;> simp only [D.bls, reduceCtorEq] at h
    obtain ⟨ms, e, rfl⟩ := Option.map_eq_some_iff.mp h
    rw [List.map_cons, ← bls_of e]
theorem reps_bls {H : Hp} : ∀ {vs : List V} {ns : List Bool}, Reps G H vs (ns.map .bl) → vs = ns.map V.bl
  | _, [], r => by cases r; rfl
  | _, n :: ns, r => by
    cases r with
    | cons h t => cases h; rw [reps_bls t]; rfl
def dAll : Ops
  | [.lst ds] => (D.bls ds).map fun bs => .val (.bl (bs.all id))
  | _ => none
def dAny : Ops
  | [.lst ds] => (D.bls ds).map fun bs => .val (.bl (bs.any id))
  | _ => none
theorem calld_all (hc : X.calm = true) : CallR X (.builtin "all") (rOs G dAll) := by
  refine callr_imp (cr_all hc) fun xs H Q h => ?_
  obtain ⟨ds, h, t, ev, k⟩ := h
  unfold dAll at ev
  split at ev
  · obtain ⟨ns, hn, rfl⟩ := Option.map_eq_some_iff.mp ev
    obtain ⟨v, rfl, t1⟩ := t.one
    obtain ⟨a, vs, rfl, ha, ra⟩ := t1.inv_lst
    rw [bls_of hn] at ra
    obtain rfl := reps_bls ra
    exact ⟨a, ns, rfl, .inl ha, k _ H Grow.refl (.bl _)⟩
  · cases ev
theorem calld_any (hc : X.calm = true) : CallR X (.builtin "any") (rOs G dAny) := by
  refine callr_imp (cr_any hc) fun xs H Q h => ?_
  obtain ⟨ds, h, t, ev, k⟩ := h
  unfold dAny at ev
  split at ev
  · obtain ⟨ns, hn, rfl⟩ := Option.map_eq_some_iff.mp ev
    obtain ⟨v, rfl, t1⟩ := t.one
    obtain ⟨a, vs, rfl, ha, ra⟩ := t1.inv_lst
    rw [bls_of hn] at ra
    obtain rfl := reps_bls ra
    exact ⟨a, ns, rfl, .inl ha, k _ H Grow.refl (.bl _)⟩
  · cases ev
end
end Ft
set_option Elab.async false
set_option linter.all false
set_option maxRecDepth 100000
set_option maxHeartbeats 2000000
/-! FtF: sorted. -/
namespace Ft
open PySem PySem.Spec PySem.Calls PyProof.Rows L2 PySem.W

section
variable {prog : Program} {w : World} {A : Around} {E : Value → Shared → Prop} {s : Shared}
/-- a tuple's items, gathered -/
theorem coll_tup {l : Addr} {o : Obj} {n : Nat} {vs : List Value} {Q : List Value → Shared → Prop} (ho : s.heap.get? l = some o) (hc : o.cls = .type "tuple") (hd : o.data = .seq vs.toArray n) (hz : vs.length ≤ sizeLine)
    (h : ∀ h', (∀ b u, s.heap.get? b = some u → h'.get? b = some u) → Q vs { s with heap := h' }) : wpAny (model prog w) A (collect (.ref l)) Q E s := by
  unfold collect
  refine wpAny_bind (wpAny_runValue (codeAny_builtin entry_proto_collect' ?_))
  show wpAny _ _ (do let f ← newList []; again (.builtin "list.__iadd__" ⟨[f, .ref l], []⟩)) _ _ s
  refine wpAny_bind (wpAny_newList (wpAny_pure ⟨Code.quiet_builtin _ (by decide +kernel), codeAny_builtin entry_list_iadd' ?_⟩))
  show wpAny _ _ (Builtin.List.listExtendWith (.ref s.heap.objs.size) (.ref l) (.ref s.heap.objs.size)) _ _ { s with heap := s.heap.push (seqObj "list" #[] 0) }
  unfold Builtin.List.listExtendWith
  have hp : (s.heap.push (seqObj "list" #[] 0)).get? l = some o := Heap.get?_push_of_some _ ho
  refine wpAny_bind (wpAny_typeOf (T := "tuple") ⟨o, hp, hc⟩ ?_)
  have ht : (Value.type "tuple" == Value.type "tuple") = true := by rfl
  rw [if_pos (by rw [ht]; simp)]
  refine wpAny_bind (listItems_at hp hd ?_)
  refine wpAny_bind (listItems_at (xs := #[]) (n := 0) (Heap.get?_push_size _ rfl) rfl ?_)
  rw [if_neg (by simp)]
  have hsz : (#[] ++ vs.toArray).size ≤ sizeLine + 1 := by simp only [Array.size_append, List.size_toArray, List.length_nil]; omega
  refine wpAny_bind (listUpdate_at (xs := #[]) (n := 0) (Heap.get?_push_size _ rfl) rfl ?_ (Nat.zero_le _) hsz)
  refine wpAny_pure ?_
  show wpAny (model prog w) A (do
      let z ← load s.heap.objs.size
      match z.data with
      | .seq xs _ => pure xs.toList
      | _ => unsupported "internal:collect") Q E _
  refine wpAny_bind (wpAny_load (get?_update_seq (Heap.get?_push_size _ rfl) _) ?_)
  have e : ((#[] : Array Value) ++ vs.toArray).toList = vs := by simp
  refine wpAny_pure ?_
  show Q ((#[] : Array Value) ++ vs.toArray).toList _
  rw [e]
  refine h _ fun b u q => ?_
  rw [Heap.get?_update_other _ _ (Nat.ne_of_gt (Heap.lt_size q))]
  exact Heap.get?_push_of_some _ q

/-- sorted(x), by how x's items are gathered -/
theorem sorted_by {β : Type} {x : Value} {enc : β → PyData} {bs : List β} {R : Value → β → Prop} {Q : Value → Shared → Prop}
    (hcol : ∀ E' : Value → Shared → Prop, wpAny (model prog w) A.in1 (collect x) (fun vs s1 => ∃ h1 tk, s1 = { s with heap := h1, toks := tk } ∧ (∀ b u, s.heap.get? b = some u → h1.get? b = some u) ∧ EachIs R vs bs ∧ EachIs (fun v b => ∃ as, Reads h1 v (enc b) as) vs bs) E' s)
    (hal : AllAlike (bs.map enc)) (hk : Sortable (bs.map enc)) (hL : bs.length ≤ sizeLine) (hu : ∀ b, b ∈ bs → A.units + 2 + (enc b).depth < cLine)
    (h : ∀ (h1 h2 : Heap) (tk : Nat) (out : List Value) (c : Nat), (∀ b u, s.heap.get? b = some u → h1.get? b = some u) → (∀ b u, h1.get? b = some u → h2.get? b = some u) → h2.get? h1.objs.size = some (seqObj "list" out.toArray c) → EachIs R out (bs.mergeSort (dataLe false enc)) → Q (.ref h1.objs.size) { s with heap := h2, toks := tk }) :
    wpAny (model prog w) A (call (.builtin "sorted") [x]) Q E s := by
  refine call_function_entry kind_sorted plain_sorted entry_sorted (args_sorted1 _) ?_
  unfold Builtin.«sorted»
  refine wpAny_bind (m := checkCount "sorted" 1 1 _) (wpAny_pure ?_)
  refine wpAny_bind (thn (hcol _) fun vs s1 hq => ?_)
  obtain ⟨h1, tk, rfl, k1, e, er⟩ := hq
  have hvl : vs.length = bs.length := e.length
  refine wpAny_bind (wpAny_newList ?_ (by rw [hvl]; exact hL))
  have ho : (h1.push (seqObj "list" vs.toArray 0)).get? h1.objs.size = some (seqObj "list" vs.toArray 0) := Heap.get?_push_size _ rfl
  have er' : EachIs (fun v b => ∃ as, Reads (sortingHeap (h1.push (seqObj "list" vs.toArray 0)) h1.objs.size vs) v (enc b) as) vs bs := er.mono fun _ _ ⟨as, r⟩ =>
    ⟨as, PyProof.Rows.Reads.keeps (fun b u q => sortingHeap_old (Nat.ne_of_lt (Heap.lt_size q)) (Heap.get?_push_of_some _ q)) r⟩
  have S : SortsAt prog w A.in1.in1 { s with heap := sortingHeap (h1.push (seqObj "list" vs.toArray 0)) h1.objs.size vs, toks := tk } (dataKind (sortingHeap (h1.push (seqObj "list" vs.toArray 0)) h1.objs.size vs) (bs.map enc)) vs :=
    SortsAt.data (s := { s with heap := sortingHeap (h1.push (seqObj "list" vs.toArray 0)) h1.objs.size vs, toks := tk })
      (each_map (R := fun v d => ∃ as, Reads (sortingHeap (h1.push (seqObj "list" vs.toArray 0)) h1.objs.size vs) v d as) enc er') hal hk (bound_map hu)
  show wpAny _ _ _ _ _ { s with heap := h1.push (seqObj "list" vs.toArray 0), toks := tk }
  refine wpAny_bind (wpAny_holding (wpAny_call_entry slot_list_sort ⟨_, ho, rfl⟩ entry_list_sort (list_sort_vals (s := { s with heap := h1.push (seqObj "list" vs.toArray 0), toks := tk }) ho S (by rw [hvl]; exact hL) ?_) (args_list_sort _)))
  refine ⟨_, rfl, wpAny_pure ⟨_, rfl, ?_⟩⟩
  obtain ⟨c, hc⟩ := sortedHeap_at (vs := vs) (out := (sortVals (dataKind (sortingHeap (h1.push (seqObj "list" vs.toArray 0)) h1.objs.size vs) (bs.map enc)) false vs vs).toArray) ho
  refine h h1 _ tk _ c k1 (fun b u q => ?_) hc (sortVals_data false e er' hal)
  rw [sortedHeap_old (Nat.ne_of_lt (Heap.lt_size q)) (by rw [size_push']; exact Nat.lt_succ_of_lt (Heap.lt_size q))]
  exact Heap.get?_push_of_some _ q
end

/-! ### over plain data -/
def encD (d : D) : PyData := (D.py d).getD .none
def alikeB (ps : List PyData) : Bool := ps.all fun p => ps.all fun q => alike p q
def isRow : PyData → Bool
  | .tuple (_ :: _) => true
  | _ => false
def isAtom : PyData → Bool
  | .none => false
  | .tuple _ => false
  | _ => true
def sortOk (ds : List D) : Bool := (ds.all fun d => (D.py d).isSome && flatEnough (encD d)) && alikeB (ds.map encD) && ((ds.map encD).all isRow || (ds.map encD).all isAtom)
def sortD (ds : List D) : Option Hd := if sortOk ds then some (.tmp (.lst (ds.mergeSort (dataLe false encD)))) else none
def dSorted : Ops
  | [.lst ds] => sortD ds
  | [.tup ds] => sortD ds
  | [.dct kvs] => sortD (kvs.map fun kv => kD kv.1)
  | _ => none
theorem sortOk_alike {ds : List D} (h : sortOk ds = true) : AllAlike (ds.map encD) := by
  unfold sortOk at h
  simp only [Bool.and_eq_true] at h
  intro p hp q hq
  have z := List.all_eq_true.mp h.1.2 p hp
  exact List.all_eq_true.mp z q hq
theorem sortOk_kind {ds : List D} (h : sortOk ds = true) : Sortable (ds.map encD) := by
  unfold sortOk at h
  simp only [Bool.and_eq_true, Bool.or_eq_true] at h
  rcases h.2 with z | z
  · refine .inl fun d hd => ?_
    have q := List.all_eq_true.mp z d hd
    cases d <;> simp only [isRow, Bool.false_eq_true] at q
    rename_i xs
    cases xs with
    | nil => cases q
    | cons x r => exact ⟨x, r, rfl⟩
  · refine .inr fun d hd => ?_
    have q := List.all_eq_true.mp z d hd
    refine ⟨fun e => ?_, fun xs e => ?_⟩
    · rw [e] at q; cases q
    · rw [e] at q; cases q
theorem sortOk_py {ds : List D} (h : sortOk ds = true) {d : D} (hd : d ∈ ds) : D.py d = some (encD d) ∧ (encD d).depth ≤ 60 := by
  unfold sortOk at h
  simp only [Bool.and_eq_true] at h
  have q := List.all_eq_true.mp h.1.1 d hd
  simp only [Bool.and_eq_true] at q
  refine ⟨?_, of_decide_eq_true q.2⟩
  obtain ⟨p, e⟩ := Option.isSome_iff_exists.mp q.1
  unfold encD
  rw [e]
  rfl
/-- a value of the machine stands for d -/
def VRep (G : Pg) (H : Hp) (u : Value) (d : D) : Prop := ∃ v, RelV v u ∧ Rep G H v d
section
variable {X : Cx} {G : Pg} {pins : List (Addr × Obj)} {σ : L2.St} {H : Hp} {s : Shared}
theorem each_of_reps : ∀ {vs : List V} {us : List Value} {ds : List D}, Vals vs us → Reps G H vs ds → EachIs (VRep G H) us ds
  | _, _, _, .nil, .nil => .nil
  | _, _, _, .cons r t, .cons q z => .cons ⟨_, r, q⟩ (each_of_reps t z)
theorem reps_of_each : ∀ {us : List Value} {ds : List D}, EachIs (VRep G H) us ds → ∃ vs, Vals vs us ∧ Reps G H vs ds
  | _, _, .nil => ⟨[], .nil, .nil⟩
  | _, _, .cons ⟨v, r, q⟩ t => let ⟨vs, a, b⟩ := reps_of_each t; ⟨v :: vs, .cons r a, .cons q b⟩
theorem each_reads (hK : X.K = G.K) (I : Inv X pins σ H s) : ∀ {us : List Value} {ds : List D}, (∀ d ∈ ds, D.py d = some (encD d)) → EachIs (VRep G H) us ds → EachIs (fun v d => ∃ as, Reads s.heap v (encD d) as) us ds
  | _, _, _, .nil => .nil
  | _, _, h, .cons ⟨v, r, q⟩ t => .cons (q.reads hK I (h _ List.mem_cons_self) r) (each_reads hK I (fun d hd => h d (List.mem_cons_of_mem _ hd)) t)
/-- sorted, from the items as they are gathered -/
theorem sorted_d {A : Around} {x : Value} {ds : List D} {Q : VK} {E : Value → Shared → Prop} (hA : A = X.A) (hK : X.K = G.K) (hu : X.A.units + 64 < cLine) (I : Inv X pins σ H s) (hz : ds.length ≤ sizeLine) (ok : sortOk ds = true)
    (hcol : ∀ E' : Value → Shared → Prop, wpAny (model X.prog X.w) A.in1 (collect x) (fun vs s1 => ∃ h1 tk, s1 = { s with heap := h1, toks := tk } ∧ (∀ b u, s.heap.get? b = some u → h1.get? b = some u) ∧ EachIs (VRep G H) vs ds) E' s)
    (k : ∀ v H', Grow H H' → NR G H H' v (.tmp (.lst (ds.mergeSort (dataLe false encD)))) → Q v H') :
    wpAny (model X.prog X.w) A (call (.builtin "sorted") [x]) (EP X pins σ Q) E s := by
  subst hA
  refine sorted_by (R := VRep G H) (enc := encD) (bs := ds) (fun E' => thn (hcol E') fun vs s1 hq => ?_) (sortOk_alike ok) (sortOk_kind ok) hz (fun d hd => by have := (sortOk_py ok hd).2; omega) fun h1 h2 tk out c k1 k2 hp he => ?_
  · obtain ⟨h1, tk, rfl, k1, e⟩ := hq
    have I1 : Inv X pins σ H { s with heap := h1, toks := tk } := I.kept k1
    exact ⟨h1, tk, rfl, k1, e, each_reads hK I1 (fun d hd => (sortOk_py ok hd).1) e⟩
  · obtain ⟨vs, rv, q⟩ := reps_of_each he
    have I1 : Inv X pins σ H { s with heap := h1, toks := tk } := I.kept k1
    have hl : vs.length ≤ sizeLine := by rw [q.length, List.length_mergeSort]; exact hz
    have hn : H h1.objs.size = none := I1.hok.fresh (Nat.le_refl _)
    have z := nr_lst hn q
    exact ⟨.ref h1.objs.size, _, I1.laid (t' := tk) k2 (Nat.le_refl _) (show ObjOk X.prog X.w _ h2 _ (.lst vs) from ⟨hl, out, c, rv, hp⟩), rfl, k _ _ z.1 z.2⟩
theorem repK_keys : ∀ {kvs : List (Key × V)} {ds : List (Key × D)}, RepK G H kvs ds → kvs.map (·.1) = ds.map (·.1)
  | _, _, .nil => rfl
  | _, _, .cons _ t => by rw [List.map_cons, List.map_cons, repK_keys t]
theorem calld_sorted (hc : X.calm = true) (hK : X.K = G.K) (hu : X.A.units + 64 < cLine) : CallR X (.builtin "sorted") (rOs G dSorted) := by
  intro pins s σ H xs us Q I r h
  obtain ⟨ds, h, t, ev, k⟩ := h
  have sd : ∀ {es : List D} {h : Hd}, sortD es = some h → sortOk es = true ∧ h = .tmp (.lst (es.mergeSort (dataLe false encD))) := fun {es h} e => by
    unfold sortD at e
    split at e
    · cases e; exact ⟨by assumption, rfl⟩
    · cases e
  unfold dSorted at ev
  split at ev
  · obtain ⟨ok, rfl⟩ := sd ev
    obtain ⟨v, rfl, t1⟩ := t.one
    obtain ⟨a, vs, rfl, ha, ra⟩ := t1.inv_lst
    obtain ⟨u, rfl, ru⟩ := vals1 r
    cases ru
    obtain ⟨z, its, n, rv, hl, e⟩ := rdl I ha
    refine sorted_d rfl hK hu I (by rw [← ra.length]; exact z) ok (fun E' => ?_) k
    refine PyProof.Rows.collect_list (vs := its) ⟨_, e, rfl, n, rfl⟩ ⟨_, s.toks, rfl, fun b u q => ?_, each_of_reps rv ra⟩ (by omega)
    rw [Heap.get?_update_other _ _ (Nat.ne_of_gt (Heap.lt_size q))]
    exact Heap.get?_push_of_some _ q
  · obtain ⟨ok, rfl⟩ := sd ev
    obtain ⟨v, rfl, t1⟩ := t.one
    obtain ⟨a, vs, rfl, ha, ra⟩ := t1.inv_tup
    obtain ⟨u, rfl, ru⟩ := vals1 r
    cases ru
    obtain ⟨its, rv, ⟨o, ho, hcl, n, hd⟩, z⟩ := I.tuple (hK ▸ ha)
    have hl := rv.length
    refine sorted_d rfl hK hu I (by rw [← ra.length]; exact z) ok (fun E' => ?_) k
    exact coll_tup ho hcl hd (by omega) fun h' k' => ⟨h', s.toks, rfl, k', each_of_reps rv ra⟩
  · rename_i kvs
    obtain ⟨ok, rfl⟩ := sd ev
    obtain ⟨v, rfl, t1⟩ := t.one
    obtain ⟨a, ws, rfl, ha, ra⟩ := t1.inv_dct
    obtain ⟨u, rfl, ru⟩ := vals1 r
    cases ru
    obtain ⟨z, lo, vs, rel, dd⟩ := dk_rd I.hok ha
    obtain ⟨ep, hat⟩ := dd.dictAt
    have hlen : vs.length = kvs.length := by rw [← rel.length, ra.length]
    have h16 : vs.length ≤ sizeLine := by rw [← rel.length]; exact z
    have hkeys : vs.map (·.1) = kvs.map (·.1) := by
      rw [← rel.keys]
      exact repK_keys ra
    refine sorted_d rfl hK hu I (by rw [List.length_map, ← hlen]; exact h16) ok (fun E' => ?_) k
    refine PySem.W.kdu_collect (A := X.A.in1) (PySem.W.kdl_dict (knd := mixKind X.prog X.w) (kvs := vs) (ep := ep) lo) (I.ok.hd hc) hat h16 fun h' tk acc hk hacc => ⟨h', tk, rfl, hk, ?_⟩
    have hv : Vals (vs.map fun p => kV p.1) acc.toList := keys_at (by rw [Array.length_toList]; exact hacc.1) fun j v e => hacc.2 j v (by rw [← Array.getElem?_toList]; exact e)
    have e1 : (vs.map fun p => kV p.1) = (kvs.map (·.1)).map kV := by rw [← hkeys, List.map_map]; rfl
    have e2 : (kvs.map fun kv => kD kv.1) = (kvs.map (·.1)).map kD := by rw [List.map_map]; rfl
    rw [e1] at hv
    rw [e2]
    have go : ∀ ks : List Key, Reps G H (ks.map kV) (ks.map kD) := fun ks => by
      induction ks with
      | nil => exact .nil
      | cons x ks ih =>
        refine .cons ?_ ih
        cases x with
        | inl i => exact .int i
        | inr z => exact .str z
    exact each_of_reps hv (go _)
  · cases ev
end
end Ft
set_option Elab.async false
set_option linter.all false
set_option maxRecDepth 100000
set_option maxHeartbeats 2000000
/-! FtG: what changes an own thing: methods of lists and dicts, stores to items; dicts made. -/
namespace Ft
open PySem PySem.Spec PySem.Calls PyProof.Rows L2

/-- a change: the thing, what is handed in; the thing behind it, and the answer -/
abbrev Mop := D → List D → Option (D × D)
def rMut (G : Pg) (op : Mop) : V → List V → Hp → VK → Prop := fun x xs H Q => ∃ a d ds d' e, x = .ref a ∧ OwnR G H a d ∧ Reps G H xs ds ∧ op d ds = some (d', e) ∧
  ∀ v H', Ext H H' → (∀ b, b ≠ a → H' b = H b) → OwnR G H' a d' → Rep G H' v e → Q v H'
def mAppend : Mop
  | .lst ds, [d] => if ds.length < 1000000 then some (.lst (ds ++ [d]), .non) else none
  | _, _ => none
def mExtend : Mop
  | .lst ds, [.lst es] => if ds.length + es.length ≤ 1000000 then some (.lst (ds ++ es), .non) else none
  | _, _ => none
def mPop : Mop
  | .lst ds, [] => (ds[ds.length - 1]?).map fun d => (.lst ds.dropLast, d)
  | .lst ds, [.int i] => if decide (0 ≤ i) && decide (i < 1000000) then (ds[i.toNat]?).map fun d => (.lst (ds.eraseIdx i.toNat), d) else none
  | _, _ => none
section
variable {X : Cx} {G : Pg}
theorem reps_one {H : Hp} {vs : List V} {d : D} (t : Reps G H vs [d]) : ∃ v, vs = [v] ∧ Rep G H v d := by
  cases t with
  | cons h t => cases t; exact ⟨_, rfl, h⟩
theorem reps_two {H : Hp} {vs : List V} {d e : D} (t : Reps G H vs [d, e]) : ∃ v w, vs = [v, w] ∧ Rep G H v d ∧ Rep G H w e := by
  cases t with
  | cons h t =>
    obtain ⟨w, rfl, q⟩ := reps_one t
    exact ⟨_, _, rfl, h, q⟩
theorem own_lst {H : Hp} {a : Addr} {ds : List D} (o : OwnR G H a (.lst ds)) : ∃ vs, H a = some (.lst vs) ∧ Reps G H vs ds := by
  cases o with
  | lst h r => exact ⟨_, h, r⟩
theorem own_dct {H : Hp} {a : Addr} {ds : List (Key × D)} (o : OwnR G H a (.dct ds)) : ∃ vs, H a = some (.dK vs) ∧ RepK G H vs ds := by
  cases o with
  | dK h r => exact ⟨_, h, r⟩
/-- an own list gets other items -/
theorem put_lst {H : Hp} {a : Addr} {vs ws : List V} {ds es : List D} (h : H a = some (.lst vs)) (r : Reps G H vs ds) (q : Reps G H ws es) : Ext H (upd H a (.lst ws)) ∧ (∀ b, b ≠ a → upd H a (.lst ws) b = H b) ∧ OwnR G (upd H a (.lst ws)) a (.lst es) :=
  have x : Ext H (upd H a (.lst ws)) := Ext.upd (OwnR.lst h r)
  ⟨x, fun b hb => upd_ne hb, .lst upd_same (q.ext x)⟩
theorem put_dct {H : Hp} {a : Addr} {vs ws : List (Key × V)} {ds es : List (Key × D)} (h : H a = some (.dK vs)) (r : RepK G H vs ds) (q : RepK G H ws es) : Ext H (upd H a (.dK ws)) ∧ (∀ b, b ≠ a → upd H a (.dK ws) b = H b) ∧ OwnR G (upd H a (.dK ws)) a (.dct es) :=
  have x : Ext H (upd H a (.dK ws)) := Ext.upd (OwnR.dK h r)
  ⟨x, fun b hb => upd_ne hb, .dK upd_same (q.ext x)⟩
theorem rep_non {H : Hp} : Rep G H .non .non := .non
theorem mil' {n : Nat} (h : n < 1000000) : n < sizeLine := by rw [sizeLine_eq]; omega
theorem mtd_append : MtR X "list.append" (rMut G mAppend) := by
  intro pins s σ H x xs v us Q I rx rs h
  obtain ⟨a, d, ds, d', e, rfl, o, t, ev, k⟩ := h
  unfold mAppend at ev
  split at ev
  · split at ev
    · rename_i hl
      cases ev
      obtain ⟨w, rfl, t1⟩ := reps_one t
      obtain ⟨vs, ha, ra⟩ := own_lst o
      refine mt_append pins s σ H _ _ v us Q I rx rs ⟨a, vs, w, rfl, rfl, ha, by rw [ra.length]; exact mil' hl, ?_⟩
      obtain ⟨x1, x2, x3⟩ := put_lst ha ra (ra.append (.cons t1 .nil))
      exact k _ _ x1 x2 x3 .non
    · cases ev
  · cases ev
theorem mtd_pop : MtR X "list.pop" (rMut G mPop) := by
  intro pins s σ H x xs v us Q I rx rs h
  obtain ⟨a, d, ds, d', e, rfl, o, t, ev, k⟩ := h
  unfold mPop at ev
  split at ev
  · rename_i ds
    obtain ⟨y, hy, ev⟩ := Option.map_eq_some_iff.mp ev
    cases ev
    cases t
    obtain ⟨vs, ha, ra⟩ := own_lst o
    obtain ⟨w, hw, rw'⟩ := ra.get hy
    refine mt_pop pins s σ H _ _ v us Q I rx rs ⟨a, vs, w, rfl, rfl, ha, by rw [ra.length]; exact hw, ?_⟩
    have ra' : Reps G H vs.dropLast ds.dropLast := by
      rw [List.dropLast_eq_take, List.dropLast_eq_take, ra.length]
      exact ra.take _
    obtain ⟨x1, x2, x3⟩ := put_lst ha ra ra'
    exact k _ _ x1 x2 x3 (rw'.ext x1)
  · rename_i ds i
    split at ev
    · rename_i hi
      simp only [Bool.and_eq_true, decide_eq_true_eq] at hi
      obtain ⟨y, hy, ev⟩ := Option.map_eq_some_iff.mp ev
      cases ev
      obtain ⟨w, rfl, t1⟩ := reps_one t
      cases t1
      obtain ⟨vs, ha, ra⟩ := own_lst o
      obtain ⟨z, hz, rw'⟩ := ra.get hy
      have hlt : i.toNat < vs.length := (List.getElem?_eq_some_iff.mp hz).1
      refine mt_popAt pins s σ H _ _ v us Q I rx rs ⟨a, vs, i, i.toNat, z, rfl, rfl, ha, by omega, by omega, seqIndex_of hi.1 (by omega), hz, ?_⟩
      obtain ⟨x1, x2, x3⟩ := put_lst ha ra (ra.eraseIdx i.toNat)
      exact k _ _ x1 x2 x3 (rw'.ext x1)
    · cases ev
  · cases ev
theorem mtd_extend : MtR X "list.extend" (rMut G mExtend) := by
  intro pins s σ H x xs v us Q I rx rs h
  obtain ⟨a, d, ds, d', e, rfl, o, t, ev, k⟩ := h
  unfold mExtend at ev
  split at ev
  · split at ev
    · rename_i hl
      cases ev
      obtain ⟨w, rfl, t1⟩ := reps_one t
      obtain ⟨vs, ha, ra⟩ := own_lst o
      obtain ⟨b, ws, rfl, hb, rb⟩ := TR.inv_lst (.inl t1)
      cases rx
      obtain ⟨u, rfl, ru⟩ := Vals.one rs
      cases ru
      obtain ⟨z1, its, n, r1, l1, e1⟩ := rdl I (.inl ha)
      obtain ⟨z2, its2, n2, r2, l2, e2⟩ := rdl I hb
      have q1 := ra.length
      have q2 := rb.length
      have hl := mil hl
      have big : its.toArray.size + its2.toArray.size ≤ sizeLine := by rw [List.size_toArray, List.size_toArray]; omega
      have nl : ¬ (!its.toArray.isEmpty && Builtin.List.listTooLong (its.toArray.size + its2.toArray.size)) = true := by
        rw [notLongL big, Bool.and_false]; exact Bool.false_ne_true
      refine call_meets F.slot_list_extend ⟨_, e1, rfl⟩ F.entry_list_extend (F.args_list_extend_2 _ _) (AutoSeq1.list_extend_list_list_0 a its.toArray n b its2.toArray n2 nl (by rw [List.size_toArray]; omega) (by omega)) ⟨e1, e2, ?_⟩
      obtain ⟨x1, x2, x3⟩ := put_lst ha ra (ra.append rb)
      exact ⟨.non, _, I.lset (its' := its ++ its2) ha e1 (by simp) (r1.append r2) (by rw [List.length_append]; omega), rfl, k _ _ x1 x2 x3 .non⟩
    · cases ev
  · cases ev

/-! ### dicts: the entries as plain data -/
variable {κ : Type} [DecidableEq κ]
def putD (kvs : List (κ × D)) (k : κ) (v : D) : List (κ × D) :=
  if (kvs.any fun kv => decide (kv.1 = k)) = true then kvs.map (fun kv => if kv.1 = k then (kv.1, v) else kv) else kvs ++ [(k, v)]
def mergeD (kvs more : List (Key × D)) : List (Key × D) := more.foldl (fun acc kv => putD acc kv.1 kv.2) kvs
theorem repK_any {H : Hp} {k : Key} : ∀ {kvs : List (Key × V)} {ds : List (Key × D)}, RepK G H kvs ds → (kvs.any fun kv => decide (kv.1 = k)) = ds.any fun kv => decide (kv.1 = k)
  | _, _, .nil => rfl
  | _, _, .cons _ t => by rw [List.any_cons, List.any_cons, repK_any t]
theorem repK_map {H : Hp} {k : Key} {v : V} {d : D} (q : Rep G H v d) : ∀ {kvs : List (Key × V)} {ds : List (Key × D)}, RepK G H kvs ds →
    RepK G H (kvs.map fun kv => if kv.1 = k then (kv.1, v) else kv) (ds.map fun kv => if kv.1 = k then (kv.1, d) else kv)
  | _, _, .nil => .nil
  | _, _, .cons (k := k0) r t => by
    rw [List.map_cons, List.map_cons]
    by_cases e : k0 = k
    · rw [if_pos e, if_pos e]; exact .cons q (repK_map q t)
    · rw [if_neg e, if_neg e]; exact .cons r (repK_map q t)
theorem repK_snoc {H : Hp} {k : Key} {v : V} {d : D} (q : Rep G H v d) : ∀ {kvs : List (Key × V)} {ds : List (Key × D)}, RepK G H kvs ds → RepK G H (kvs ++ [(k, v)]) (ds ++ [(k, d)])
  | _, _, .nil => .cons q .nil
  | _, _, .cons r t => .cons r (repK_snoc q t)
theorem repK_put {H : Hp} {k : Key} {v : V} {d : D} {kvs : List (Key × V)} {ds : List (Key × D)} (r : RepK G H kvs ds) (q : Rep G H v d) : RepK G H (putK kvs k v) (putD ds k d) := by
  unfold putK putD
  rw [repK_any r]
  split
  · exact repK_map q r
  · exact repK_snoc q r
theorem repK_merge {H : Hp} : ∀ {more : List (Key × V)} {es : List (Key × D)} {kvs : List (Key × V)} {ds : List (Key × D)}, RepK G H more es → RepK G H kvs ds → RepK G H (mergeK kvs more) (mergeD ds es)
  | _, _, _, _, .nil, r => r
  | _, _, kvs, ds, .cons (k := k) (v := v) (d := d) (vs := vs) (ds := es) q t, r => by
    have z := repK_merge t (repK_put (k := k) r q)
    exact z
theorem length_putD (kvs : List (κ × D)) (k : κ) (v : D) : (putD kvs k v).length ≤ kvs.length + 1 := by
  unfold putD
  split
  · rw [List.length_map]; omega
  · rw [List.length_append]; exact Nat.le_refl _
theorem repK_drop {H : Hp} {k : Key} : ∀ {kvs : List (Key × V)} {ds : List (Key × D)}, RepK G H kvs ds → RepK G H (dropK kvs k) (ds.filter fun kv => decide (kv.1 ≠ k))
  | _, _, .nil => .nil
  | _, _, .cons (k := k0) r t => by
    unfold dropK
    rw [List.filter_cons, List.filter_cons]
    by_cases e : k0 = k
    · rw [if_neg (by simp [e]), if_neg (by simp [e])]; exact repK_drop t
    · rw [if_pos (by simp [e]), if_pos (by simp [e])]; exact .cons r (repK_drop t)
def mUpdate : Mop
  | .dct a, [.dct b] => if a.length + b.length ≤ 1000000 then some (.dct (mergeD a b), .non) else none
  | _, _ => none
/-- two dicts stand apart: one is own, the other frozen -/
theorem mtd_update : MtR X "dict.update" (rMut G mUpdate) := by
  intro pins s σ H x xs v us Q I rx rs h
  obtain ⟨a, d, ds, d', e, rfl, o, t, ev, k⟩ := h
  unfold mUpdate at ev
  split at ev
  · split at ev
    · rename_i kvs more hl
      cases ev
      obtain ⟨w, rfl, t1⟩ := reps_one t
      obtain ⟨vs, ha, ra⟩ := own_dct o
      obtain ⟨b, ws, rfl, hb, rb⟩ : ∃ b ws, w = .ref b ∧ Fz H b (.dK ws) ∧ RepK G H ws more := by
        cases t1 with
        | dK h r => exact ⟨_, _, rfl, h, r⟩
      cases rx
      obtain ⟨u, rfl, ru⟩ := Vals.one rs
      cases ru
      have hne : a ≠ b := by
        rintro rfl
        obtain ⟨ob, hb⟩ := hb
        rw [ha] at hb; cases hb
      obtain ⟨z1, hd1, vs1, rel1, dd1⟩ := dk_of I.hok ha
      obtain ⟨z2, hd2, vs2, rel2, dd2⟩ := dk_rd I.hok hb.rd
      have q1 := ra.length
      have q2 := rb.length
      have n1 := rel1.length
      have n2 := rel2.length
      have hl := mil hl
      refine call_meetsIn F.slot_dict_update dd1.typeIs F.entry_dict_update (F.args_dict_update_2 _ _) (meets_dict_update (mixKind X.prog X.w) a b hne hd2) ⟨vs1, vs2, dd1, dd2, by omega, fun h' dd' _ hs => ?_⟩
      have hlen : (mergeK vs ws).length ≤ sizeLine := Nat.le_trans (length_mergeK ws vs) (by omega)
      have he : ∃ q, h'.get? a = some q := let ⟨q, _, _, hq, _⟩ := dd'; ⟨q, hq⟩
      obtain ⟨x1, x2, x3⟩ := put_dct ha ra (repK_merge rb ra)
      exact ⟨.non, _, d_write (t' := s.toks) I (by rw [ha]; exact True.intro) hs he (dk_new hlen hd1 (KV.merge rel2 rel1) dd'), rfl, k _ _ x1 x2 x3 .non⟩
    · cases ev
  · cases ev
def mSetdefault : Mop
  | .dct a, [k, v] => (dKey k).bind fun k => if a.length < 1000000 then (match atK a k with
    | some d => some (.dct a, d)
    | none => some (.dct (putD a k v), v)) else none
  | _, _ => none
theorem mtd_setdefault : MtR X "dict.setdefault" (rMut G mSetdefault) := by
  intro pins s σ H x xs v us Q I rx rs h
  obtain ⟨a, d, ds, d', e, rfl, o, t, ev, k⟩ := h
  unfold mSetdefault at ev
  split at ev
  · obtain ⟨kk, hk, ev⟩ := Option.bind_eq_some_iff.mp ev
    split at ev
    · rename_i hl
      obtain ⟨w1, w2, rfl, t1, t2⟩ := reps_two t
      obtain ⟨vs, ha, ra⟩ := own_dct o
      rw [dKey_some hk] at t1
      obtain rfl := rep_kD (.inl t1)
      cases rx
      obtain ⟨u1, u2, rfl, r1, r2⟩ := Vals.two rs
      have hl' : vs.length < sizeLine := by rw [ra.length]; exact mil' hl
      refine d_setd I ha r1 r2 hl' (fun z hz w' s' I' rw' => ?_) fun hz w' s' I' rw' => ?_
      · rcases repK_get ra kk with ⟨y, d0, g1, g2, g3⟩ | ⟨g1, g2⟩
        · rw [hz] at g1
          cases g1
          have g2 : atK _ kk = some d0 := g2
          rw [g2] at ev
          cases ev
          exact ⟨z, H, I', rw', k _ H Ext.refl (fun _ _ => rfl) (.dK ha ra) g3⟩
        · rw [hz] at g1; cases g1
      · rcases repK_get ra kk with ⟨y, d0, g1, g2, g3⟩ | ⟨g1, g2⟩
        · rw [hz] at g1; cases g1
        · have g2 : atK _ kk = none := g2
          rw [g2] at ev
          cases ev
          obtain ⟨x1, x2, x3⟩ := put_dct ha ra (repK_put (k := kk) ra t2)
          exact ⟨w2, _, I', rw', k _ _ x1 x2 x3 (t2.ext x1)⟩
    · cases ev
  · cases ev

/-! ### stores to items -/
abbrev Sop := D → D → D → Option D
def rSet (G : Pg) (op : Sop) : TSet := fun o i v H Q => ∃ a d e f d', o = .ref a ∧ OwnR G H a d ∧ TR G H i e ∧ Rep G H v f ∧ op d e f = some d' ∧ ∀ H', Ext H H' → (∀ b, b ≠ a → H' b = H b) → OwnR G H' a d' → Q H'
def sSet : Sop
  | .lst ds, .int i, d => if decide (0 ≤ i) && decide (i < ds.length) then some (.lst (ds.set i.toNat d)) else none
  | .dct a, k, d => (dKey k).bind fun k => if a.length < 1000000 then some (.dct (putD a k d)) else none
  | _, _, _ => none
theorem psetd (hu : X.A.units + 64 < cLine) : PSet X (rSet G sSet) := by
  intro pins s σ H o i v ov iv u Q I ro ri rv h
  obtain ⟨a, d, e, f, d', rfl, ow, t1, t2, ev, k⟩ := h
  unfold sSet at ev
  split at ev
  · split at ev
    · rename_i _ ds i hi
      simp only [Bool.and_eq_true, decide_eq_true_eq] at hi
      cases ev
      obtain ⟨vs, ha, ra⟩ := own_lst ow
      obtain rfl := t1.inv_int
      have hn : ixN vs.length i = some i.toNat := by
        unfold ixN
        rw [if_pos hi.1, if_pos (by rw [ra.length]; exact hi.2)]
      obtain ⟨x1, x2, x3⟩ := put_lst ha ra (ra.set t2 i.toNat)
      exact set_list pins s σ H _ _ v ov iv u Q I ro ri rv ⟨a, vs, i, i.toNat, rfl, rfl, ha, hn, k _ x1 x2 x3⟩
    · cases ev
  · obtain ⟨kk, hk, ev⟩ := Option.bind_eq_some_iff.mp ev
    split at ev
    · rename_i hl
      cases ev
      obtain ⟨vs, ha, ra⟩ := own_dct ow
      rw [dKey_some hk] at t1
      obtain rfl := rep_kD t1
      cases ro
      obtain ⟨x1, x2, x3⟩ := put_dct ha ra (repK_put (k := kk) ra t2)
      exact d_setItem (by omega) I (DPut.k ha (by rw [ra.length]; exact mil' hl)) ri rv fun s' I' => ⟨_, I', k _ x1 x2 x3⟩
    · cases ev
  · cases ev

/-! ### d.get(k), d.get(k, x) -/
def dGetM : Ops
  | [.dct a, k] => (dKey k).map fun k => .val ((atK a k).getD .non)
  | [.dct a, k, x] => (dKey k).map fun k => .val ((atK a k).getD x)
  | _ => none

/-! ### dict(ps) of a list of pairs; dict(d) -/
def pairsD : List D → Option (List (Key × D))
  | [] => some []
  | .tup [k, v] :: ds => match dKey k, pairsD ds with
    | some k, some r => some ((k, v) :: r)
    | _, _ => none
  | _ => none
def dDict : Ops
  | [.lst ds] => (pairsD ds).map fun ps => .tmp (.dct (mergeD [] ps))
  | [.dct a] => some (.tmp (.dct a))
  | _ => none
theorem nr_dct {H : Hp} {p : Addr} {vs : List (Key × V)} {ds : List (Key × D)} (hp : H p = none) (r : RepK G H vs ds) : Grow H (upd H p (.dK vs)) ∧ NR G H (upd H p (.dK vs)) (.ref p) (.tmp (.dct ds)) :=
  have g := Grow.upd (u := .dK vs) hp
  ⟨g, p, rfl, .dK upd_same (r.ext g.ext), hp⟩
theorem pairs_reps {H : Hp} : ∀ {vs : List V} {ds : List D} {ps : List (Key × D)}, Reps G H vs ds → pairsD ds = some ps → ∃ (as : List Addr) (kvs : List (Key × V)), vs = as.map V.ref ∧ Paired (fun p kv => SqT G.K H p [kV kv.1, kv.2]) as kvs ∧ RepK G H kvs ps
  | _, _, _, .nil, h => by cases h; exact ⟨[], [], rfl, .nil, .nil⟩
  | _, _, _, .cons (d := d) r t, h => by
    unfold pairsD at h
    split at h
    · rename_i hh; cases hh
    · rename_i k v ds' hh
      injection hh with h1 h2
      subst h1
      subst h2
      split at h
      · rename_i kk rest e1 e2
        cases h
        obtain ⟨as, kvs, rfl, hp, hr⟩ := pairs_reps t e2
        obtain ⟨p, ws, rfl, hs, hw⟩ := TR.inv_tup (.inl r)
        obtain ⟨x, y, rfl, g1, g2⟩ := reps_two hw
        rw [dKey_some e1] at g1
        obtain rfl := rep_kD (.inl g1)
        exact ⟨p :: as, (kk, y) :: kvs, rfl, .cons hs hp, .cons g2 hr⟩
      · cases h
    · cases h
theorem calld_dict (hc : X.calm = true) (hK : X.K = G.K) : CallR X (.type "dict") (rOs G dDict) := by
  intro pins s σ H xs us Q I r h
  obtain ⟨ds, h, t, ev, k⟩ := h
  unfold dDict at ev
  split at ev
  · obtain ⟨ps, hp, rfl⟩ := Option.map_eq_some_iff.mp ev
    obtain ⟨v, rfl, t1⟩ := t.one
    obtain ⟨a, vs, rfl, ha, ra⟩ := t1.inv_lst
    obtain ⟨as, kvs, rfl, q1, q2⟩ := pairs_reps ra hp
    refine call_dictP hc pins s σ H _ us Q I r ⟨a, as, kvs, rfl, .inl ha, hK ▸ q1, fun p hp => ?_⟩
    have z := nr_dct hp (repK_merge q2 .nil)
    exact k _ _ z.1 z.2
  · cases ev
    obtain ⟨v, rfl, t1⟩ := t.one
    obtain ⟨a, vs, rfl, ha, ra⟩ := t1.inv_dct
    obtain ⟨u, rfl, ru⟩ := vals1 r
    cases ru
    refine d_copyOf I ha fun p s' hp I' => ⟨.ref p, _, I', rfl, ?_⟩
    have z := nr_dct hp ra
    exact k _ _ z.1 z.2
  · cases ev
end
end Ft
set_option Elab.async false
set_option linter.all false
set_option maxRecDepth 100000
set_option maxHeartbeats 2000000
/-! FtH: expressions: what a piece of syntax means over slots, and that the machine does so. -/
namespace Ft
open PySem PySem.Spec PySem.Calls PyProof.Rows L2

/-! ### the pieces' meanings -/
def evVar (i : Nat) : EV := fun ρ => match ρ[i]? with
  | some (.sh d) => .ok (.val d, ρ)
  | some (.ow _) => .ok (.slot i, ρ)
  | some (.ln _) => .ok (.slot i, ρ)
  | _ => .bad
def evC (d : D) : EV := fun ρ => .ok (.val d, ρ)
def evOp2 (op : Op2) (fa fb : EV) : EV := fun ρ => do
  let (h1, ρ1) ← settle fa ρ
  let (h2, ρ2) ← settle fb ρ1
  let d1 ← Res.of (look ρ2 h1)
  let d2 ← Res.of (look ρ2 h2)
  let r ← Res.of (op d1 d2)
  pure (r, ρ2)
def evOp1 (op : Op1) (fa : EV) : EV := fun ρ => do
  let (h1, ρ1) ← settle fa ρ
  let d1 ← Res.of (look ρ1 h1)
  let r ← Res.of (op d1)
  pure (r, ρ1)
/-- an answer True or False -/
def tst (f : EV) : BV := fun ρ => do
  let (h, ρ1) ← f ρ
  match h with
  | .val (.bl b) => pure (b, ρ1)
  | _ => .bad
def evB (f : BV) : EV := fun ρ => do
  let (b, ρ1) ← f ρ
  pure (.val (.bl b), ρ1)
def bvNot (f : BV) : BV := fun ρ => do
  let (b, ρ1) ← f ρ
  pure (!b, ρ1)
def bvAnd (f g : BV) : BV := fun ρ => do
  let (b, ρ1) ← f ρ
  if b then g ρ1 else pure (false, ρ1)
def bvOr (f g : BV) : BV := fun ρ => do
  let (b, ρ1) ← f ρ
  if b then pure (true, ρ1) else g ρ1
def evIf (c : BV) (f g : EV) : EV := fun ρ => do
  let (b, ρ1) ← c ρ
  if b then f ρ1 else g ρ1
/-- two comparisons in a row -/
def evChain (op op' : Op2) (fa fb fc : EV) : EV := fun ρ => do
  let (h1, ρ1) ← settle fa ρ
  let (h2, ρ2) ← settle fb ρ1
  let d1 ← Res.of (look ρ2 h1)
  let d2 ← Res.of (look ρ2 h2)
  let r ← Res.of (op d1 d2)
  match r with
  | .val (.bl true) => do
    let (h3, ρ3) ← settle fc ρ2
    let d2' ← Res.of (look ρ3 h2)
    let d3 ← Res.of (look ρ3 h3)
    let r' ← Res.of (op' d2' d3)
    match r' with
    | .val (.bl b) => pure (.val (.bl b), ρ3)
    | _ => .bad
  | .val (.bl false) => pure (.val (.bl false), ρ2)
  | _ => .bad
def looks (ρ : Rho) : List Hd → Option (List D)
  | [] => some []
  | h :: hs => match look ρ h, looks ρ hs with
    | some d, some ds => some (d :: ds)
    | _, _ => none
def avNil : AV := fun ρ => .ok ([], ρ)
def avCons (f : EV) (g : AV) : AV := fun ρ => do
  let (h, ρ1) ← settle f ρ
  let (hs, ρ2) ← g ρ1
  pure (h :: hs, ρ2)
def evOps (op : Ops) (g : AV) : EV := fun ρ => do
  let (hs, ρ1) ← g ρ
  let ds ← Res.of (looks ρ1 hs)
  let r ← Res.of (op ds)
  pure (r, ρ1)
/-- things that are handed on: all frozen -/
abbrev GV := Rho → Res (List D × Rho)
def tGv (C : Ct) (f : GV) : TA := fun σ H Q => ∃ ρ ds ρ', EnvR C σ H ρ ∧ f ρ = .ok (ds, ρ') ∧ ∀ vs H', Ext H H' → EnvR C σ H' ρ' → Reps C.G H' vs ds → Q vs H'
def given (f : EV) : Rho → Res (D × Rho) := fun ρ => do
  let (h, ρ1) ← give f ρ
  match h with
  | .val d => pure (d, ρ1)
  | _ => .bad
def gvNil : GV := fun ρ => .ok ([], ρ)
def gvCons (f : EV) (g : GV) : GV := fun ρ => do
  let (d, ρ1) ← given f ρ
  let (ds, ρ2) ← g ρ1
  pure (d :: ds, ρ2)
def evTup (g : GV) : EV := fun ρ => do
  let (ds, ρ1) ← g ρ
  if ds.length ≤ 1000000 then pure (.val (.tup ds), ρ1) else .bad
def evLst (g : GV) : EV := fun ρ => do
  let (ds, ρ1) ← g ρ
  if ds.length ≤ 1000000 then pure (.tmp (.lst ds), ρ1) else .bad
/-- the own slot i is changed -/
def Rho.put (ρ : Rho) (i : Nat) (d : D) : Option Rho := match ρ[i]? with
  | some (.ow _) => some (ρ.set i (.ow d))
  | some (.ln _) => some (ρ.set i (.ln d))
  | _ => none
def evMut (i : Nat) (op : Mop) (g : GV) : EV := fun ρ => do
  let (ds, ρ1) ← g ρ
  let d ← Res.of (Rho.own ρ1 i)
  let (d', e) ← Res.of (op d ds)
  let ρ2 ← Res.of (ρ1.put i d')
  pure (.val e, ρ2)

section
variable {X : Cx} {C : Ct} {σ : L2.St} {H H' : Hp} {ρ ρ' : Rho}
theorem Res.pure_ok {α : Type} {a b : α} (h : (pure a : Res α) = .ok b) : a = b := by cases h; rfl
/-- a settled handle stays -/
theorem HR.later {v : V} {h : Hd} (r : HR C σ H ρ v h.settle) (x : Ext H H') : HR C σ H' ρ' v h.settle := by
  cases h with
  | val d => exact Rep.ext x r
  | tmp d => exact Rep.ext x r
  | slot i => exact r

/-! ### names, constants -/
theorem pe_evVar {i : Nat} {x : Str} {pos : Pos} (hN : X.N[i]? = some x) (hv : Vis X.env.scope x) (hd : (x == ("__debug__" : Str)) = false) (hcd : (x == ("__classdict__" : Str)) = false) : PE X (.Name x pos) (tEv C (evVar i)) := by
  refine pe_imp (pe_var hN hv hd hcd) fun σ H Q h => ?_
  obtain ⟨ρ, h, ρ', R, ev, k⟩ := h
  unfold evVar at ev
  split at ev
  · rename_i d e
    cases ev
    obtain ⟨v, q, r⟩ := R.sh i d e
    exact ⟨v, q, k v H Ext.refl R r⟩
  · rename_i d e
    cases ev
    obtain ⟨a, q, _, _⟩ := R.ow i d (own_of_ow e)
    exact ⟨_, q, k _ H Ext.refl R q⟩
  · rename_i d e
    cases ev
    obtain ⟨a, q, _, _⟩ := R.ow i d (own_of_ln e)
    exact ⟨_, q, k _ H Ext.refl R q⟩
  · cases ev
theorem pe_evC {e : Expr} {v : V} {d : D} (h : PE X e (tC v)) (r : ∀ H, Rep C.G H v d) : PE X e (tEv C (evC d)) := by
  refine pe_imp h fun σ H Q h => ?_
  obtain ⟨ρ, h, ρ', R, ev, k⟩ := h
  cases ev
  exact k v H Ext.refl R (r H)

/-! ### operators -/
variable {a b c e : Expr} {fa fb fc : EV} {pos : Pos}
theorem evOp2_ok {op : Op2} {h : Hd} (e : evOp2 op fa fb ρ = .ok (h, ρ')) : ∃ h1 ρ1 h2 d1 d2, fa ρ = .ok (h1, ρ1) ∧ fb ρ1 = .ok (h2, ρ') ∧ look ρ' h1.settle = some d1 ∧ look ρ' h2.settle = some d2 ∧ op d1 d2 = some h := by
  obtain ⟨⟨h1, ρ1⟩, e1, e⟩ := Res.bind_ok e
  obtain ⟨⟨h2, ρ2⟩, e2, e⟩ := Res.bind_ok e
  obtain ⟨d1, e3, e⟩ := Res.bind_ok e
  obtain ⟨d2, e4, e⟩ := Res.bind_ok e
  obtain ⟨r, e5, e⟩ := Res.bind_ok e
  cases Res.pure_ok e
  obtain ⟨g1, q1, rfl⟩ := settle_ok e1
  obtain ⟨g2, q2, rfl⟩ := settle_ok e2
  exact ⟨g1, ρ1, g2, d1, d2, q1, q2, Res.of_ok e3, Res.of_ok e4, Res.of_ok e5⟩
/-- two pieces in a row, then an operation on what they hold -/
theorem op2_imp {op : Op2} {Q : VK} (h : tEv C (evOp2 op fa fb) σ H Q) : tOp (rO2 C.G op) (tEv C (settle fa)) (tEv C (settle fb)) σ H Q := by
  obtain ⟨ρ, h, ρ', R, ev, k⟩ := h
  obtain ⟨h1, ρ1, h2, d1, d2, e1, e2, e3, e4, e5⟩ := evOp2_ok ev
  refine ⟨ρ, h1.settle, ρ1, R, by unfold settle; rw [e1], fun x H1 x1 R1 r1 => ⟨ρ1, h2.settle, ρ', R1, by unfold settle; rw [e2], fun y H2 x2 R2 r2 => ?_⟩⟩
  refine ⟨d1, d2, h, HR.look R2 (HR.later r1 x2) e3, HR.look R2 r2 e4, e5, fun v H3 g n => ?_⟩
  exact k v H3 ((x1.trans x2).trans g.ext) (R2.grow g) (n.hr R2)
theorem pe_bin {op : Operator} {f : Op2} (ho : OpR X (binaryOp op) (rO2 C.G f)) (ha : PE X a (tEv C fa)) (hb : PE X b (tEv C fb)) : PE X (.BinOp a op b pos) (tEv C (evOp2 f fa fb)) :=
  pe_imp (pe_op ho (pe_settle ha) (pe_settle hb)) fun _ _ _ h => op2_imp h
theorem pe_cmp2 {op : CmpOp} {f : Op2} (ho : OpR X (compareOp op) (rO2 C.G f)) (ha : PE X a (tEv C fa)) (hb : PE X b (tEv C fb)) (hm : behindInMarks op b = false) : PE X (.Compare a [op] [b] pos) (tEv C (evOp2 f fa fb)) :=
  pe_imp (pe_cmpR ho (pe_settle ha) (pe_settle hb) hm) fun _ _ _ h => op2_imp h
theorem tst_ok {f : EV} {b : Bool} (e : tst f ρ = .ok (b, ρ')) : f ρ = .ok (.val (.bl b), ρ') := by
  obtain ⟨⟨h, ρ1⟩, e1, e⟩ := Res.bind_ok e
  dsimp only at e
  split at e
  · cases Res.pure_ok e; exact e1
  · cases e
theorem tst_imp {f : EV} {Q : Bool → Hp → Prop} (h : tBv C (tst f) σ H Q) : tTest (tEv C f) σ H Q := by
  obtain ⟨ρ, b, ρ', R, ev, k⟩ := h
  refine ⟨ρ, _, ρ', R, tst_ok ev, fun v H' x R' r => ?_⟩
  cases (show Rep C.G H' v (.bl b) from r)
  exact ⟨b, rfl, k H' x R'⟩
theorem pt_cmp2 {op : CmpOp} {f : Op2} (ho : OpR X (compareOp op) (rO2 C.G f)) (ha : PE X a (tEv C fa)) (hb : PE X b (tEv C fb)) (hm : behindInMarks op b = false) : PT X (.Compare a [op] [b] pos) (tBv C (tst (evOp2 f fa fb))) :=
  pt_imp (pt_cmpR ho (pe_settle ha) (pe_settle hb) hm) fun σ H Q h => by
    obtain ⟨ρ, b, ρ', R, ev, k⟩ := h
    refine op2_imp ⟨ρ, _, ρ', R, tst_ok ev, fun v H' x R' r => ?_⟩
    cases (show Rep C.G H' v (.bl b) from r)
    exact ⟨b, rfl, k H' x R'⟩
theorem pt_ev {f : EV} (h : PE X e (tEv C f)) (he : ∀ whole, isTrue e X.env whole = (do let v ← whole; standAt e.pos; holding [v] (truthy v))) : PT X e (tBv C (tst f)) :=
  pt_imp (pt_val h he) fun _ _ _ q => tst_imp q
theorem op1_imp {op : Op1} {Q : VK} (h : tEv C (evOp1 op fa) σ H Q) : tUn (rO1 C.G op) (tEv C (settle fa)) σ H Q := by
  obtain ⟨ρ, h, ρ', R, ev, k⟩ := h
  obtain ⟨⟨h1, ρ1⟩, e1, ev⟩ := Res.bind_ok ev
  obtain ⟨d1, e3, ev⟩ := Res.bind_ok ev
  obtain ⟨r, e5, ev⟩ := Res.bind_ok ev
  cases Res.pure_ok ev
  exact ⟨ρ, h1, ρ', R, e1, fun x H1 x1 R1 r1 => ⟨d1, h, HR.look R1 r1 (Res.of_ok e3), Res.of_ok e5, fun v H3 g n => k v H3 (x1.trans g.ext) (R1.grow g) (n.hr R1)⟩⟩
theorem pe_unary {op : UnaryOp} {f : Op1} (ho : UnR X (unaryOp op) (rO1 C.G f)) (ha : PE X a (tEv C fa)) : PE X (.UnaryOp op a pos) (tEv C (evOp1 f fa)) :=
  pe_imp (pe_un ho (pe_settle ha)) fun _ _ _ h => op1_imp h
theorem pe_index (hr : IxR X (rO2 C.G dIx)) (ha : PE X a (tEv C fa)) (hb : PE X b (tEv C fb)) (hs : PlainIx b) : PE X (.Subscript a b pos) (tEv C (evOp2 dIx fa fb)) :=
  pe_imp (pe_ix hr (pe_settle ha) (pe_settle hb) hs) fun _ _ _ h => op2_imp h

/-! ### tests -/
theorem pt_notB {f : BV} (h : PT X a (tBv C f)) : PT X (.UnaryOp .Not a pos) (tBv C (bvNot f)) :=
  pt_imp (pt_not h) fun σ H Q q => by
    obtain ⟨ρ, b, ρ', R, ev, k⟩ := q
    obtain ⟨⟨b1, ρ1⟩, e1, ev⟩ := Res.bind_ok ev
    cases Res.pure_ok ev
    exact ⟨ρ, b1, ρ', R, e1, k⟩
theorem pw_imp {t t' : TT} (h : PW X e t) (i : ∀ σ H Q, t' σ H Q → t σ H Q) : PW X e t' := ⟨fun wh pins s σ H Q I q => h.run wh pins s σ H Q I (i σ H Q q)⟩
variable {rest : List Expr} {f g : BV}
theorem pw_andB (ha : PT X a (tBv C f)) (hb : PW X (.BoolOp .And (b :: rest) pos) (tBv C g)) : PW X (.BoolOp .And (a :: b :: rest) pos) (tBv C (bvAnd f g)) :=
  pw_imp (pw_and ha hb) fun σ H Q q => by
    obtain ⟨ρ, b0, ρ', R, ev, k⟩ := q
    obtain ⟨⟨b1, ρ1⟩, e1, ev⟩ := Res.bind_ok ev
    refine ⟨ρ, b1, ρ1, R, e1, fun H1 x1 R1 => ?_⟩
    cases b1 with
    | true =>
      rw [if_pos rfl]
      exact ⟨ρ1, b0, ρ', R1, ev, fun H2 x2 R2 => k H2 (x1.trans x2) R2⟩
    | false =>
      rw [if_neg Bool.false_ne_true]
      cases Res.pure_ok ev
      exact k H1 x1 R1
theorem pw_orB (ha : PT X a (tBv C f)) (hb : PW X (.BoolOp .Or (b :: rest) pos) (tBv C g)) : PW X (.BoolOp .Or (a :: b :: rest) pos) (tBv C (bvOr f g)) :=
  pw_imp (pw_or ha hb) fun σ H Q q => by
    obtain ⟨ρ, b0, ρ', R, ev, k⟩ := q
    obtain ⟨⟨b1, ρ1⟩, e1, ev⟩ := Res.bind_ok ev
    refine ⟨ρ, b1, ρ1, R, e1, fun H1 x1 R1 => ?_⟩
    cases b1 with
    | true =>
      rw [if_pos rfl]
      cases Res.pure_ok ev
      exact k H1 x1 R1
    | false =>
      rw [if_neg Bool.false_ne_true]
      exact ⟨ρ1, b0, ρ', R1, ev, fun H2 x2 R2 => k H2 (x1.trans x2) R2⟩
theorem evB_ok {f : BV} {h : Hd} (e : evB f ρ = .ok (h, ρ')) : ∃ b, f ρ = .ok (b, ρ') ∧ h = .val (.bl b) := by
  obtain ⟨⟨b, ρ1⟩, e1, e⟩ := Res.bind_ok e
  cases Res.pure_ok e
  exact ⟨b, e1, rfl⟩
theorem tst_evB (f : BV) : tst (evB f) = f := by
  funext ρ
  unfold tst evB
  show Res.bind (Res.bind (f ρ) _) _ = _
  cases f ρ with
  | bad => rfl
  | ok p => rfl
/-- as values -/
theorem pe_andB (ha : PE X a (tEv C (evB f))) (hb : PE X (.BoolOp .And (b :: rest) pos) (tEv C (evB g))) : PE X (.BoolOp .And (a :: b :: rest) pos) (tEv C (evB (bvAnd f g))) :=
  pe_imp (pe_and ha hb) fun σ H Q q => by
    obtain ⟨ρ, h, ρ', R, ev, k⟩ := q
    obtain ⟨b0, ev0, rfl⟩ := evB_ok ev
    obtain ⟨⟨b1, ρ1⟩, e1, ev⟩ := Res.bind_ok ev0
    refine ⟨ρ, .val (.bl b1), ρ1, R, by unfold evB; show Res.bind (f ρ) _ = _; rw [e1]; rfl, fun v H1 x1 R1 r1 => ?_⟩
    cases (show Rep C.G H1 v (.bl b1) from r1)
    refine ⟨b1, rfl, ?_⟩
    cases b1 with
    | true =>
      rw [if_pos rfl]
      have ev : g ρ1 = .ok (b0, ρ') := ev
      exact ⟨ρ1, .val (.bl b0), ρ', R1, by unfold evB; show Res.bind (g ρ1) _ = _; rw [ev]; rfl, fun v2 H2 x2 R2 r2 => k v2 H2 (x1.trans x2) R2 r2⟩
    | false =>
      rw [if_neg Bool.false_ne_true]
      cases Res.pure_ok ev
      exact k _ H1 x1 R1 r1
theorem pe_orB (ha : PE X a (tEv C (evB f))) (hb : PE X (.BoolOp .Or (b :: rest) pos) (tEv C (evB g))) : PE X (.BoolOp .Or (a :: b :: rest) pos) (tEv C (evB (bvOr f g))) :=
  pe_imp (pe_or ha hb) fun σ H Q q => by
    obtain ⟨ρ, h, ρ', R, ev, k⟩ := q
    obtain ⟨b0, ev0, rfl⟩ := evB_ok ev
    obtain ⟨⟨b1, ρ1⟩, e1, ev⟩ := Res.bind_ok ev0
    refine ⟨ρ, .val (.bl b1), ρ1, R, by unfold evB; show Res.bind (f ρ) _ = _; rw [e1]; rfl, fun v H1 x1 R1 r1 => ?_⟩
    cases (show Rep C.G H1 v (.bl b1) from r1)
    refine ⟨b1, rfl, ?_⟩
    cases b1 with
    | true =>
      rw [if_pos rfl]
      cases Res.pure_ok ev
      exact k _ H1 x1 R1 r1
    | false =>
      rw [if_neg Bool.false_ne_true]
      have ev : g ρ1 = .ok (b0, ρ') := ev
      exact ⟨ρ1, .val (.bl b0), ρ', R1, by unfold evB; show Res.bind (g ρ1) _ = _; rw [ev]; rfl, fun v2 H2 x2 R2 r2 => k v2 H2 (x1.trans x2) R2 r2⟩
theorem pe_notB (ha : PE X a (tEv C (evB f))) : PE X (.UnaryOp .Not a pos) (tEv C (evB (bvNot f))) :=
  pe_imp (pe_not ha) fun σ H Q q => by
    obtain ⟨ρ, h, ρ', R, ev, k⟩ := q
    obtain ⟨b0, ev0, rfl⟩ := evB_ok ev
    obtain ⟨⟨b1, ρ1⟩, e1, ev⟩ := Res.bind_ok ev0
    cases Res.pure_ok ev
    refine ⟨ρ, .val (.bl b1), ρ', R, by unfold evB; show Res.bind (f ρ) _ = _; rw [e1]; rfl, fun v H1 x1 R1 r1 => ?_⟩
    cases (show Rep C.G H1 v (.bl b1) from r1)
    exact ⟨b1, rfl, k _ H1 x1 R1 (.bl _)⟩
/-- a piece that gives True or False, told as such -/
theorem pe_asB {f : EV} (h : PE X e (tEv C f)) : PE X e (tEv C (evB (tst f))) :=
  pe_imp h fun σ H Q q => by
    obtain ⟨ρ, h, ρ', R, ev, k⟩ := q
    obtain ⟨b0, ev0, rfl⟩ := evB_ok ev
    exact ⟨ρ, _, ρ', R, tst_ok ev0, k⟩
theorem pe_ifB {fc : BV} (hc : PT X c (tBv C fc)) (ha : PE X a (tEv C fa)) (hb : PE X b (tEv C fb)) : PE X (.IfExp c a b pos) (tEv C (evIf fc fa fb)) :=
  pe_imp (pe_ifExp hc ha hb) fun σ H Q q => by
    obtain ⟨ρ, h, ρ', R, ev, k⟩ := q
    obtain ⟨⟨b1, ρ1⟩, e1, ev⟩ := Res.bind_ok ev
    refine ⟨ρ, b1, ρ1, R, e1, fun H1 x1 R1 => ?_⟩
    cases b1 with
    | true => exact ⟨ρ1, h, ρ', R1, ev, fun v H2 x2 R2 r2 => k v H2 (x1.trans x2) R2 r2⟩
    | false => exact ⟨ρ1, h, ρ', R1, ev, fun v H2 x2 R2 r2 => k v H2 (x1.trans x2) R2 r2⟩
theorem pe_chain2 {op op' : CmpOp} {f f' : Op2} (ho : OpR X (compareOp op) (rO2 C.G f)) (ho' : OpR X (compareOp op') (rO2 C.G f')) (ha : PE X a (tEv C fa)) (hb : PE X b (tEv C fb)) (hc : PE X c (tEv C fc)) (hm : lastMarks [op, op'] [b, c] = false) : PE X (.Compare a [op, op'] [b, c] pos) (tEv C (evChain f f' fa fb fc)) :=
  pe_imp (pe_chain ho ho' (pe_settle ha) (pe_settle hb) (pe_settle hc) hm) fun σ H Q q => by
    obtain ⟨ρ, h, ρ', R, ev, k⟩ := q
    obtain ⟨⟨h1, ρ1⟩, e1, ea⟩ := Res.bind_ok ev
    obtain ⟨⟨h2, ρ2⟩, e2, eb⟩ := Res.bind_ok ea
    obtain ⟨d1, e3, ec⟩ := Res.bind_ok eb
    obtain ⟨d2, e4, ed⟩ := Res.bind_ok ec
    obtain ⟨r, e5, ee⟩ := Res.bind_ok ed
    clear ev ea eb ec ed
    obtain ⟨g1, q1, rfl⟩ := settle_ok e1
    obtain ⟨g2, q2, rfl⟩ := settle_ok e2
    refine ⟨ρ, g1.settle, ρ1, R, e1, fun x H1 x1 R1 r1 => ⟨ρ1, g2.settle, ρ2, R1, e2, fun y H2 x2 R2 r2 => ?_⟩⟩
    refine ⟨d1, d2, r, HR.look R2 (HR.later r1 x2) (Res.of_ok e3), HR.look R2 r2 (Res.of_ok e4), Res.of_ok e5, fun v H3 gr n => ?_⟩
    dsimp only at ee
    split at ee
    · obtain ⟨⟨h3, ρ3⟩, e6, ev⟩ := Res.bind_ok ee
      obtain ⟨d2', e7, ew⟩ := Res.bind_ok ev
      obtain ⟨d3, e8, ey⟩ := Res.bind_ok ew
      obtain ⟨r', e9, ez⟩ := Res.bind_ok ey
      cases (show Rep C.G H3 v (.bl true) from n)
      refine ⟨true, rfl, ?_⟩
      have R3 := R2.grow gr
      rw [if_pos rfl]
      refine ⟨ρ2, h3, ρ3, R3, e6, fun z H4 x4 R4 r4 => ?_⟩
      refine ⟨d2', d3, r', HR.look R4 (HR.later (HR.later (ρ' := ρ2) r2 gr.ext) x4) (Res.of_ok e7), HR.look R4 r4 (Res.of_ok e8), Res.of_ok e9, fun v' H5 gr' n' => ?_⟩
      dsimp only at ez
      split at ez
      · cases Res.pure_ok ez
        exact k v' H5 ((((x1.trans x2).trans gr.ext).trans x4).trans gr'.ext) (R4.grow gr') n'
      · cases ez
    · cases Res.pure_ok ee
      cases (show Rep C.G H3 v (.bl false) from n)
      refine ⟨false, rfl, ?_⟩
      rw [if_neg Bool.false_ne_true]
      exact k _ H3 ((x1.trans x2).trans gr.ext) (R2.grow gr) (.bl _)
    · cases ee
end
end Ft
set_option Elab.async false
set_option linter.all false
set_option maxRecDepth 100000
set_option maxHeartbeats 2000000
/-! FtI: argument lists, calls of built-ins, written tuples, lists and dicts, methods of own things, parts of slices, isinstance. -/
namespace Ft
open PySem PySem.Spec PySem.Calls PyProof.Rows L2

section
variable {X : Cx} {C : Ct} {σ : L2.St} {H H' : Hp} {ρ ρ' : Rho} {a b c e : Expr} {es : List Expr} {f fa fb fc : EV} {g : GV} {ga : AV} {pos p : Pos}
theorem pt_andB {f g : BV} {rest : List Expr} (ha : PT X a (tBv C f)) (hb : PW X (.BoolOp .And (b :: rest) pos) (tBv C g)) : PT X (.BoolOp .And (a :: b :: rest) pos) (tBv C (bvAnd f g)) := (pw_andB ha hb).pt
theorem pt_orB {f g : BV} {rest : List Expr} (ha : PT X a (tBv C f)) (hb : PW X (.BoolOp .Or (b :: rest) pos) (tBv C g)) : PT X (.BoolOp .Or (a :: b :: rest) pos) (tBv C (bvOr f g)) := (pw_orB ha hb).pt
theorem pt_chain2 {op op' : CmpOp} {f f' : Op2} (ho : OpR X (compareOp op) (rO2 C.G f)) (ho' : OpR X (compareOp op') (rO2 C.G f')) (ha : PE X a (tEv C fa)) (hb : PE X b (tEv C fb)) (hc : PE X c (tEv C fc)) (hm : lastMarks [op, op'] [b, c] = false) :
    PT X (.Compare a [op, op'] [b, c] pos) (tBv C (tst (evChain f f' fa fb fc))) :=
  pt_imp (pt_chain ho ho' (pe_settle ha) (pe_settle hb) (pe_settle hc) hm) fun σ H Q q => by
    obtain ⟨ρ, bb, ρ', R, ev, k⟩ := q
    have ev := tst_ok ev
    obtain ⟨⟨h1, ρ1⟩, e1, ea⟩ := Res.bind_ok ev
    obtain ⟨⟨h2, ρ2⟩, e2, eb⟩ := Res.bind_ok ea
    obtain ⟨d1, e3, ec⟩ := Res.bind_ok eb
    obtain ⟨d2, e4, ed⟩ := Res.bind_ok ec
    obtain ⟨r, e5, ee⟩ := Res.bind_ok ed
    clear ev ea eb ec ed
    obtain ⟨g1, q1, rfl⟩ := settle_ok e1
    obtain ⟨g2, q2, rfl⟩ := settle_ok e2
    refine ⟨ρ, g1.settle, ρ1, R, e1, fun x H1 x1 R1 r1 => ⟨ρ1, g2.settle, ρ2, R1, e2, fun y H2 x2 R2 r2 => ?_⟩⟩
    refine ⟨d1, d2, r, HR.look R2 (HR.later r1 x2) (Res.of_ok e3), HR.look R2 r2 (Res.of_ok e4), Res.of_ok e5, fun v H3 gr n => ?_⟩
    dsimp only at ee
    split at ee
    · obtain ⟨⟨h3, ρ3⟩, e6, ev⟩ := Res.bind_ok ee
      obtain ⟨d2', e7, ew⟩ := Res.bind_ok ev
      obtain ⟨d3, e8, ey⟩ := Res.bind_ok ew
      obtain ⟨r', e9, ez⟩ := Res.bind_ok ey
      cases (show Rep C.G H3 v (.bl true) from n)
      refine ⟨true, rfl, ?_⟩
      have R3 := R2.grow gr
      rw [if_pos rfl]
      refine ⟨ρ2, h3, ρ3, R3, e6, fun z H4 x4 R4 r4 => ?_⟩
      refine ⟨d2', d3, r', HR.look R4 (HR.later (HR.later (ρ' := ρ2) r2 gr.ext) x4) (Res.of_ok e7), HR.look R4 r4 (Res.of_ok e8), Res.of_ok e9, fun v' H5 gr' n' => ?_⟩
      dsimp only at ez
      split at ez
      · cases Res.pure_ok ez
        cases (show Rep C.G H5 v' (.bl _) from n')
        exact ⟨_, rfl, k H5 ((((x1.trans x2).trans gr.ext).trans x4).trans gr'.ext) (R4.grow gr')⟩
      · cases ez
    · cases Res.pure_ok ee
      cases (show Rep C.G H3 v (.bl false) from n)
      refine ⟨false, rfl, ?_⟩
      rw [if_neg Bool.false_ne_true]
      exact ⟨false, rfl, k H3 ((x1.trans x2).trans gr.ext) (R2.grow gr)⟩
    · cases ee

/-! ### argument lists -/
theorem HRs.later {vs : List V} {hs : List Hd} (st : ∀ h ∈ hs, h.settle = h) (r : HRs C σ H ρ vs hs) (x : Ext H H') : HRs C σ H' ρ' vs hs := by
  induction r with
  | nil => exact .nil
  | @cons v h vs hs q t ih =>
    have e := st h (by simp)
    rw [← e] at q ⊢
    exact .cons (q.later x) (ih fun h m => st h (by simp [m]))
theorem pa_avNil : PA X [] (tAv C avNil) := pa_imp pa_nil fun σ H Q q => by
  obtain ⟨ρ, hs, ρ', R, ev, k⟩ := q
  cases ev
  exact k [] H Ext.refl R .nil
theorem settled (h : Hd) : h.settle.settle = h.settle := by cases h <;> rfl
theorem pa_avCons (ha : PE X e (tEv C f)) (hr : PA X es (tAv C ga)) (hs : starEach (e :: es) X.env = (false, eval e X.env) :: starEach es X.env := by rfl) : PA X (e :: es) (tAv C (avCons f ga)) :=
  pa_imp (pa_cons (pe_settle ha) hr hs) fun σ H Q q => by
    obtain ⟨ρ, hs, ρ', R, ev, k⟩ := q
    obtain ⟨⟨h1, ρ1⟩, e1, ea⟩ := Res.bind_ok ev
    obtain ⟨⟨h2, ρ2⟩, e2, eb⟩ := Res.bind_ok ea
    cases Res.pure_ok eb
    obtain ⟨g1, q1, rfl⟩ := settle_ok e1
    exact ⟨ρ, g1.settle, ρ1, R, e1, fun x H1 x1 R1 r1 => ⟨ρ1, h2, ρ', R1, e2, fun vs H2 x2 R2 r2 => k (x :: vs) H2 (x1.trans x2) R2 (.cons (r1.later x2) r2)⟩⟩
theorem HRs.looks {vs : List V} {hs : List Hd} (R : EnvR C σ H ρ) (r : HRs C σ H ρ vs hs) : ∀ {ds : List D}, Ft.looks ρ hs = some ds → TRs C.G H vs ds := by
  induction r with
  | nil => intro ds e; cases e; exact .nil
  | @cons v h vs hs q t ih =>
    intro ds e
    unfold Ft.looks at e
    cases e1 : look ρ h with
    | none => simp [e1] at e
    | some d =>
      cases e2 : Ft.looks ρ hs with
      | none => simp [e1, e2] at e
      | some ds' =>
        simp [e1, e2] at e
        subst e
        exact .cons (HR.look R q e1) (ih e2)
theorem ops_imp {op : Ops} {Q : VK} (h : tEv C (evOps op ga) σ H Q) : tCB (rOs C.G op) (tAv C ga) σ H Q := by
  obtain ⟨ρ, h, ρ', R, ev, k⟩ := h
  obtain ⟨⟨hs, ρ1⟩, e1, ea⟩ := Res.bind_ok ev
  obtain ⟨ds, e2, eb⟩ := Res.bind_ok ea
  obtain ⟨r, e3, ec⟩ := Res.bind_ok eb
  cases Res.pure_ok ec
  exact ⟨ρ, hs, ρ', R, e1, fun vs H1 x1 R1 r1 => ⟨ds, h, r1.looks R1 (Res.of_ok e2), Res.of_ok e3, fun v H2 gr n => k v H2 (x1.trans gr.ext) (R1.grow gr) (n.hr R1)⟩⟩
/-- a built-in function, a built-in type -/
theorem pe_bfun {op : Ops} {id : String} {x : Str} (hc : CallR X (.builtin id) (rOs C.G op)) (hg : Gl X x) (hm : X.mg x = none) (hv : bootBuiltins x = some (.builtin id)) (ha : PA X (e :: es) (tAv C ga)) (hn : x ≠ "__name__" := by decide) (hdb : (x == ("__debug__" : Str)) = false := by decide)
    (he : starEach (e :: es) X.env = (false, eval e X.env) :: starEach es X.env := by rfl) (hpl : (backTo pos (starEach es X.env)).any (·.1) = false := by rfl) : PE X (.Call (.Name x p) (e :: es) [] pos) (tEv C (evOps op ga)) :=
  pe_imp (pe_callB hc hg hm hv ha hn hdb he hpl) fun _ _ _ h => ops_imp h
theorem pe_btyp {op : Ops} {T : String} {x : Str} (hc : CallR X (.type T) (rOs C.G op)) (hg : Gl X x) (hm : X.mg x = none) (hv : bootBuiltins x = some (.type T)) (ha : PA X (e :: es) (tAv C ga)) (hn : x ≠ "__name__" := by decide) (hdb : (x == ("__debug__" : Str)) = false := by decide)
    (he : starEach (e :: es) X.env = (false, eval e X.env) :: starEach es X.env := by rfl) (hpl : (backTo pos (starEach es X.env)).any (·.1) = false := by rfl) : PE X (.Call (.Name x p) (e :: es) [] pos) (tEv C (evOps op ga)) :=
  pe_imp (pe_callTy hc hg hm hv ha hn hdb he hpl) fun _ _ _ h => ops_imp h

/-! ### handed on -/
theorem pa_gvNil : PA X [] (tGv C gvNil) := pa_imp pa_nil fun σ H Q q => by
  obtain ⟨ρ, hs, ρ', R, ev, k⟩ := q
  cases ev
  exact k [] H Ext.refl R .nil
theorem given_ok {d : D} (e : given f ρ = .ok (d, ρ')) : give f ρ = .ok (.val d, ρ') := by
  obtain ⟨⟨h, ρ1⟩, e1, e2⟩ := Res.bind_ok e
  dsimp only at e2
  split at e2
  · cases Res.pure_ok e2
    exact e1
  · cases e2
theorem pa_gvCons (ha : PE X e (tEv C f)) (hr : PA X es (tGv C g)) (hs : starEach (e :: es) X.env = (false, eval e X.env) :: starEach es X.env := by rfl) : PA X (e :: es) (tGv C (gvCons f g)) :=
  pa_imp (pa_cons (pe_give ha) hr hs) fun σ H Q q => by
    obtain ⟨ρ, hs, ρ', R, ev, k⟩ := q
    obtain ⟨⟨d, ρ1⟩, e1, ea⟩ := Res.bind_ok ev
    obtain ⟨⟨ds, ρ2⟩, e2, eb⟩ := Res.bind_ok ea
    cases Res.pure_ok eb
    exact ⟨ρ, .val d, ρ1, R, given_ok e1, fun x H1 x1 R1 r1 => ⟨ρ1, ds, ρ', R1, e2, fun vs H2 x2 R2 r2 => k (x :: vs) H2 (x1.trans x2) R2 (.cons (Rep.ext x2 r1) r2)⟩⟩
/-- *e among what is written -/
def gvStar (f : EV) (g : GV) : GV := fun ρ => do
  let (h, ρ1) ← settle f ρ
  let d ← Res.of (look ρ1 h)
  match d with
  | .tup xs => do
    let (ds, ρ2) ← g ρ1
    pure (xs ++ ds, ρ2)
  | .lst xs => do
    let (ds, ρ2) ← g ρ1
    pure (xs ++ ds, ρ2)
  | _ => .bad
theorem pa_gvStar {sp : Pos} (hK : X.K = C.G.K) (ha : PE X e (tEv C f)) (hr : PA X es (tGv C g)) (hs : starEach (.Starred e sp :: es) X.env = (true, eval e X.env) :: starEach es X.env := by rfl) : PA X (.Starred e sp :: es) (tGv C (gvStar f g)) :=
  pa_imp (StX.pa_star (pe_settle ha) hr hs) fun σ H Q q => by
    obtain ⟨ρ, hs, ρ', R, ev, k⟩ := q
    obtain ⟨⟨h, ρ1⟩, e1, ea⟩ := Res.bind_ok ev
    obtain ⟨d, e2, eb⟩ := Res.bind_ok ea
    refine ⟨ρ, h, ρ1, R, e1, fun v H1 x1 R1 r1 => ?_⟩
    have t := HR.look R1 r1 (Res.of_ok e2)
    dsimp only at eb
    split at eb
    · obtain ⟨⟨ds, ρ2⟩, e3, ec⟩ := Res.bind_ok eb
      cases Res.pure_ok ec
      obtain ⟨p, xs, rfl, hp, r⟩ := t.inv_tup
      exact ⟨p, xs, rfl, .inl (hK ▸ hp), ρ1, ds, _, R1, e3, fun vs H2 x2 R2 r2 => k _ H2 (x1.trans x2) R2 ((r.ext x2).append r2)⟩
    · obtain ⟨⟨ds, ρ2⟩, e3, ec⟩ := Res.bind_ok eb
      cases Res.pure_ok ec
      obtain ⟨p, xs, rfl, hp, r⟩ := t.inv_lst
      exact ⟨p, xs, rfl, .inr (.inl hp), ρ1, ds, _, R1, e3, fun vs H2 x2 R2 r2 => k _ H2 (x1.trans x2) R2 ((r.ext x2).append r2)⟩
    · cases eb
theorem pe_evTup {n : Nat} (h : PA X es (tGv C g)) : PE X (.Tuple es n pos) (tEv C (evTup g)) := pe_imp (pe_tup h) fun σ H Q q => by
  obtain ⟨ρ, h, ρ', R, ev, k⟩ := q
  obtain ⟨⟨ds, ρ1⟩, e1, ea⟩ := Res.bind_ok ev
  dsimp only at ea
  split at ea
  · rename_i hl
    cases Res.pure_ok ea
    refine ⟨ρ, ds, ρ', R, e1, fun vs H1 x1 R1 r1 => ⟨by rw [r1.length]; exact mil hl, fun p hp => ?_⟩⟩
    have z := nr_tup hp r1
    exact k _ _ (x1.trans z.1.ext) (R1.grow z.1) z.2
  · cases ea
theorem pe_evLst (h : PA X es (tGv C g)) : PE X (.List es pos) (tEv C (evLst g)) := pe_imp (pe_lst h) fun σ H Q q => by
  obtain ⟨ρ, h, ρ', R, ev, k⟩ := q
  obtain ⟨⟨ds, ρ1⟩, e1, ea⟩ := Res.bind_ok ev
  dsimp only at ea
  split at ea
  · rename_i hl
    cases Res.pure_ok ea
    refine ⟨ρ, ds, ρ', R, e1, fun vs H1 x1 R1 r1 => ⟨by rw [r1.length]; exact mil hl, fun p hp => ?_⟩⟩
    have z := nr_lst hp r1
    exact k _ _ (x1.trans z.1.ext) (R1.grow z.1) (z.2.hr R1)
  · cases ea
def evNewD : EV := fun ρ => .ok (.tmp (.dct []), ρ)
theorem pe_evNewD : PE X (.Dict [] [] pos) (tEv C evNewD) := pe_imp pe_dnewK fun σ H Q q => by
  obtain ⟨ρ, h, ρ', R, ev, k⟩ := q
  cases ev
  intro p hp
  have z := nr_dct (G := C.G) hp .nil
  exact k _ _ z.1.ext (R.grow z.1) (z.2.hr R)

/-! ### an own thing is changed -/
theorem put_len {i : Nat} {d : D} {ρ2 : Rho} (e : ρ.put i d = some ρ2) : ρ2.length = ρ.length := by
  unfold Rho.put at e
  split at e
  · cases e; simp
  · cases e; simp
  · cases e
theorem EnvR.put (R : EnvR C σ H ρ) {i : Nat} {d : D} {ρ2 : Rho} {a : Addr} (e : ρ.put i d = some ρ2) (s : σ[i]? = some (some (.ref a))) (x : Ext H H') (k : ∀ b, b ≠ a → H' b = H b) (o : OwnR C.G H' a d) : EnvR C σ H' ρ2 := by
  have here : ∃ d0, Rho.own ρ i = some d0 := by
    unfold Rho.put at e
    split at e
    · rename_i d0 q; exact ⟨d0, own_of_ow q⟩
    · rename_i d0 q; exact ⟨d0, own_of_ln q⟩
    · cases e
  obtain ⟨d0, h0⟩ := here
  obtain ⟨a', s', o', m0⟩ := R.ow i d0 h0
  rw [s] at s'; cases s'
  have il : i < ρ.length := by
    rcases own_cases h0 with q | q <;> exact (List.getElem?_eq_some_iff.mp q).1
  have form : (∃ w, ρ[i]? = some (.ow w) ∧ ρ2 = ρ.set i (.ow d)) ∨ ∃ w, ρ[i]? = some (.ln w) ∧ ρ2 = ρ.set i (.ln d) := by
    unfold Rho.put at e
    split at e
    · rename_i w q; cases e; exact .inl ⟨w, q, rfl⟩
    · rename_i w q; cases e; exact .inr ⟨w, q, rfl⟩
    · cases e
  have own2 : ∀ j w, Rho.own ρ2 j = some w → (j = i ∧ w = d) ∨ (j ≠ i ∧ Rho.own ρ j = some w) := fun j w q => by
    rcases form with ⟨z, _, rfl⟩ | ⟨z, _, rfl⟩
    · rcases own_set q with ⟨e1, e2⟩ | e1
      · cases e2; exact .inl ⟨e1, rfl⟩
      · exact .inr e1
    · rcases own_set q with ⟨e1, e2⟩ | e1
      · cases e2; exact .inl ⟨e1, rfl⟩
      · exact .inr e1
  have own1 : ∀ j w, Rho.own ρ2 j = some w → ∃ w', Rho.own ρ j = some w' := fun j w q => by
    rcases own2 j w q with ⟨rfl, _⟩ | ⟨_, q⟩
    · exact ⟨d0, h0⟩
    · exact ⟨w, q⟩
  refine ⟨fun j w q => ?_, fun j w q => ?_, fun j b q => ?_, fun j l w1 w2 b q1 q2 => ?_, fun b u q l => ?_, by rw [put_len e]; exact R.len⟩
  · have : ρ[j]? = some (.sh w) := by
      by_cases hj : j = i
      · subst hj
        rcases form with ⟨z, _, rfl⟩ | ⟨z, _, rfl⟩
        · rw [List.getElem?_set_self il] at q; cases q
        · rw [List.getElem?_set_self il] at q; cases q
      · rcases form with ⟨z, _, rfl⟩ | ⟨z, _, rfl⟩
        · rw [List.getElem?_set_ne (Ne.symm hj)] at q; exact q
        · rw [List.getElem?_set_ne (Ne.symm hj)] at q; exact q
    obtain ⟨v, q1, q2⟩ := R.sh j w this
    exact ⟨v, q1, q2.ext x⟩
  · rcases own2 j w q with ⟨rfl, rfl⟩ | ⟨hj, q⟩
    · exact ⟨a, s, o, m0⟩
    · obtain ⟨b, q1, q2, q3⟩ := R.ow j w q
      refine ⟨b, q1, q2.keep x fun u z => ?_, q3⟩
      rw [k b fun y => hj (R.apart j i w d0 a q h0 (y ▸ q1) s)]
      exact z
  · obtain ⟨q1, w, q2⟩ := R.ln j b q
    refine ⟨q1, ?_⟩
    by_cases hj : j = i
    · subst hj
      rcases form with ⟨z, e1, rfl⟩ | ⟨z, e1, rfl⟩
      · rw [q2] at e1; cases e1
      · exact ⟨d, List.getElem?_set_self il⟩
    · rcases form with ⟨z, _, rfl⟩ | ⟨z, _, rfl⟩
      · exact ⟨w, by rw [List.getElem?_set_ne (Ne.symm hj)]; exact q2⟩
      · exact ⟨w, by rw [List.getElem?_set_ne (Ne.symm hj)]; exact q2⟩
  · obtain ⟨w1', z1⟩ := own1 j w1 q1
    obtain ⟨w2', z2⟩ := own1 l w2 q2
    exact R.apart j l w1' w2' b z1 z2
  · rw [k b fun y => ?_]
    · exact R.frame b u q l
    · subst y
      rcases m0 with m0 | m0
      · rw [m0] at q; cases q
      · exact l ⟨i, m0⟩
inductive Kd where
  | lst
  | dct
def Kd.T : Kd → String
  | .lst => "list"
  | .dct => "dict"
def Kd.is : Kd → D → Bool
  | .lst, .lst _ => true
  | .dct, .dct _ => true
  | .dct, .dcT _ => true
  | _, _ => false
theorem kd_ty {K : PySem.W.Frag} {t : Kd} {d : D} {a : Addr} (o : OwnR C.G H a d) (h : t.is d = true) : tyV K t.T (.ref a) H := by
  cases o with
  | lst e r =>
    cases t with
    | lst => exact .inl ⟨rfl, _, SqL.of e⟩
    | dct => cases h
  | dK e r =>
    cases t with
    | lst => cases h
    | dct => exact .inr (.inr (.inl ⟨rfl, .inl ⟨_, e⟩⟩))
  | dT e r =>
    cases t with
    | lst => cases h
    | dct => exact .inr (.inr (.inl ⟨rfl, .inr ⟨_, e⟩⟩))
  | obj e r => cases t <;> cases h
/-- a method that changes its own receiver -/
def evMth (t : Kd) (i : Nat) (op : Mop) (g : GV) : EV := fun ρ => do
  let d0 ← Res.of (Rho.own ρ i)
  if t.is d0 then evMut i op g ρ else .bad
theorem mth_ok {t : Kd} {i : Nat} {op : Mop} {h : Hd} (ev : evMth t i op g ρ = .ok (h, ρ')) : ∃ d0 ds ρ1 d d' w, Rho.own ρ i = some d0 ∧ t.is d0 = true ∧ g ρ = .ok (ds, ρ1) ∧ Rho.own ρ1 i = some d ∧ op d ds = some (d', w) ∧ ρ1.put i d' = some ρ' ∧ h = .val w := by
  obtain ⟨d0, e0, ea⟩ := Res.bind_ok ev
  split at ea
  · rename_i hk
    obtain ⟨⟨ds, ρ1⟩, e1, eb⟩ := Res.bind_ok ea
    obtain ⟨d, e2, ec⟩ := Res.bind_ok eb
    obtain ⟨⟨d', w⟩, e3, ed⟩ := Res.bind_ok ec
    obtain ⟨ρ2, e4, ee⟩ := Res.bind_ok ed
    cases Res.pure_ok ee
    exact ⟨d0, ds, ρ1, d, d', w, Res.of_ok e0, hk, e1, Res.of_ok e2, Res.of_ok e3, Res.of_ok e4, rfl⟩
  · cases ea
theorem pe_evMth {t : Kd} {i : Nat} {op : Mop} {x name : Str} {id : String} {apos cpos : Pos} (pa : PlainAttrs t.T) (slot : PySem.Slot t.T name id) (hty : typeOf (.builtin id) = pure (.type "method_descriptor")) (hm : MtR X id (rMut C.G op))
    (hN : X.N[i]? = some x) (hv : Vis X.env.scope x) (hd : (x == ("__debug__" : Str)) = false) (hcd : (x == ("__classdict__" : Str)) = false) (ha : PA X (e :: es) (tGv C g))
    (hbase : attributeBase (.Name x p) name X.env (eval (.Name x p) X.env) = eval (.Name x p) X.env := by rfl)
    (hfew : ((backTo cpos (starEach (e :: es) X.env)).all (fun x => !x.1) && (backToKw cpos (keywordEach [] X.env)).all (fun x => x.1.isSome)
      && decide ((e :: es).length + ([] : List Keyword).length + (if ([] : List Keyword).isEmpty then 0 else 1) < 30)) = true := by rfl)
    (hline : (apos.endLine == cpos.line) = true := by rfl) (hs : starEach (e :: es) X.env = (false, eval e X.env) :: starEach es X.env := by rfl) (hplain : (backTo cpos (starEach es X.env)).any (·.1) = false := by rfl) :
    PE X (.Call (.Attribute (.Name x p) name apos) (e :: es) [] cpos) (tEv C (evMth t i op g)) :=
  pe_imp (pe_bm pa slot hty hm (pe_var hN hv hd hcd) ha hbase hfew hline hs hplain) fun σ H Q q => by
    obtain ⟨ρ, h, ρ', R, ev, k⟩ := q
    obtain ⟨d0, ds, ρ1, d, d', w, e0, hk, e1, e2, e3, e4, rfl⟩ := mth_ok ev
    obtain ⟨a, s, o, _⟩ := R.ow i d0 e0
    refine ⟨_, s, kd_ty o hk, ρ, ds, ρ1, R, e1, fun vs H1 x1 R1 r1 => ?_⟩
    obtain ⟨a', s', o1, _⟩ := R1.ow i d e2
    rw [s] at s'; cases s'
    exact ⟨a, d, ds, d', w, rfl, o1, r1, e3, fun v H2 x2 k2 o2 r2 => k v H2 (x1.trans x2) (R1.put e4 s x2 k2 o2) r2⟩
theorem pe_evMth0 {t : Kd} {i : Nat} {op : Mop} {x name : Str} {id : String} {apos cpos : Pos} (pa : PlainAttrs t.T) (slot : PySem.Slot t.T name id) (hty : typeOf (.builtin id) = pure (.type "method_descriptor")) (hm : MtR X id (rMut C.G op))
    (hN : X.N[i]? = some x) (hv : Vis X.env.scope x) (hd : (x == ("__debug__" : Str)) = false) (hcd : (x == ("__classdict__" : Str)) = false)
    (hbase : attributeBase (.Name x p) name X.env (eval (.Name x p) X.env) = eval (.Name x p) X.env := by rfl) (hline : (apos.endLine == cpos.line) = true := by rfl) :
    PE X (.Call (.Attribute (.Name x p) name apos) [] [] cpos) (tEv C (evMth t i op gvNil)) :=
  pe_imp (pe_bm0 pa slot hty hm (pe_var hN hv hd hcd) hbase hline) fun σ H Q q => by
    obtain ⟨ρ, h, ρ', R, ev, k⟩ := q
    obtain ⟨d0, ds, ρ1, d, d', w, e0, hk, e1, e2, e3, e4, rfl⟩ := mth_ok ev
    cases e1
    obtain ⟨a, s, o, _⟩ := R.ow i d0 e0
    refine ⟨_, s, kd_ty o hk, ?_⟩
    obtain ⟨a', s', o1, _⟩ := R.ow i d e2
    rw [s] at s'; cases s'
    exact ⟨a, d, [], d', w, rfl, o1, .nil, e3, fun v H2 x2 k2 o2 r2 => k v H2 x2 (R.put e4 s x2 k2 o2) r2⟩

/-! ### d.get -/
def evGet (fo fk : EV) : EV := fun ρ => do
  let (h1, ρ1) ← settle fo ρ
  let d0 ← Res.of (look ρ1 h1)
  if Kd.is .dct d0 then
    let (h2, ρ2) ← settle fk ρ1
    let d1 ← Res.of (look ρ2 h1)
    let d2 ← Res.of (look ρ2 h2)
    let r ← Res.of (dGetM [d1, d2])
    pure (r, ρ2)
  else .bad
def evGet2 (fo fk fx : EV) : EV := fun ρ => do
  let (h1, ρ1) ← settle fo ρ
  let d0 ← Res.of (look ρ1 h1)
  if Kd.is .dct d0 then
    let (h2, ρ2) ← settle fk ρ1
    let (h3, ρ3) ← give fx ρ2
    match h3 with
    | .val d3 => do
      let d1 ← Res.of (look ρ3 h1)
      let d2 ← Res.of (look ρ3 h2)
      let r ← Res.of (dGetM [d1, d2, d3])
      pure (r, ρ3)
    | _ => .bad
  else .bad
theorem tr_isD {K : PySem.W.Frag} {v : V} {d : D} (t : TR C.G H v d) (h : Kd.is .dct d = true) : ∃ a, v = .ref a ∧ IsD H a := by
  cases d with
  | dct kvs =>
    obtain ⟨a, vs, rfl, q, _⟩ := t.inv_dct
    exact ⟨a, rfl, .inl ⟨_, q⟩⟩
  | dcT kvs =>
    obtain ⟨a, vs, rfl, q, _⟩ := t.inv_dcT
    exact ⟨a, rfl, .inr ⟨_, q⟩⟩
  | _ => cases h
theorem pe_evGet {apos cpos : Pos} (hu : X.A.units + 64 < cLine) (ha : PE X a (tEv C fa)) (hb : PE X b (tEv C fb)) (m : M1 X a "get" apos b cpos) : PE X (.Call (.Attribute a "get" apos) [b] [] cpos) (tEv C (evGet fa fb)) :=
  pe_imp (pe_dget1 (by omega) (pe_settle ha) (pe_settle hb) m) fun σ H Q q => by
    obtain ⟨ρ, h, ρ', R, ev, k⟩ := q
    obtain ⟨⟨h1, ρ1⟩, e1, ea⟩ := Res.bind_ok ev
    obtain ⟨d0, e0, eb⟩ := Res.bind_ok ea
    dsimp only at eb
    split at eb
    · rename_i hk
      obtain ⟨⟨h2, ρ2⟩, e2, ec⟩ := Res.bind_ok eb
      obtain ⟨d1, e3, ed⟩ := Res.bind_ok ec
      obtain ⟨d2, e4, ee⟩ := Res.bind_ok ed
      obtain ⟨r, e5, ef⟩ := Res.bind_ok ee
      cases Res.pure_ok ef
      obtain ⟨g1, q1, rfl⟩ := settle_ok e1
      clear ev ea eb ec ed ee
      refine ⟨ρ, g1.settle, ρ1, R, e1, fun x H1 x1 R1 r1 => ?_⟩
      obtain ⟨p, rfl, isd⟩ := tr_isD (K := X.K) (HR.look R1 r1 (Res.of_ok e0)) hk
      refine ⟨p, rfl, isd, ρ1, h2, _, R1, e2, fun y H2 x2 R2 r2 => ?_⟩
      have t1 := HR.look R2 (HR.later r1 x2) (Res.of_ok e3)
      have t2 := HR.look R2 r2 (Res.of_ok e4)
      have e5 := Res.of_ok e5
      unfold dGetM at e5
      split at e5
      · rename_i kvs kk eq
        cases eq
        cases e6 : dKey d2 with
        | none => rw [e6] at e5; cases e5
        | some key =>
          rw [e6] at e5
          cases e5
          obtain ⟨p', vs, e7, hp, rk⟩ := t1.inv_dct
          cases e7
          rw [dKey_some e6] at t2
          have e8 := rep_kD t2
          subst e8
          refine ⟨_, dkey_in hp key, ?_⟩
          rcases repK_get rk key with ⟨v, d, l1, l2, rr⟩ | ⟨l1, l2⟩
          · rw [l1]
            refine k _ H2 (x1.trans x2) R2 ?_
            simp only [atK, l2, Option.getD_some, Option.getD_none]
            exact rr
          · rw [l1]
            refine k _ H2 (x1.trans x2) R2 ?_
            simp only [atK, l2, Option.getD_some, Option.getD_none]
            exact .non
      · rename_i eq; cases eq
      · cases e5
    · cases eb
theorem pe_evGet2 {apos cpos : Pos} (hu : X.A.units + 64 < cLine) (ha : PE X a (tEv C fa)) (hb : PE X b (tEv C fb)) (hc : PE X c (tEv C fc)) (m : M2 X a "get" apos b c cpos) : PE X (.Call (.Attribute a "get" apos) [b, c] [] cpos) (tEv C (evGet2 fa fb fc)) :=
  pe_imp (pe_dget2 (by omega) (pe_settle ha) (pe_settle hb) (pe_give hc) m) fun σ H Q q => by
    obtain ⟨ρ, h, ρ', R, ev, k⟩ := q
    obtain ⟨⟨h1, ρ1⟩, e1, ea⟩ := Res.bind_ok ev
    obtain ⟨d0, e0, eb⟩ := Res.bind_ok ea
    dsimp only at eb
    split at eb
    · rename_i hk
      obtain ⟨⟨h2, ρ2⟩, e2, ec⟩ := Res.bind_ok eb
      obtain ⟨⟨h3, ρ3⟩, e3, ed⟩ := Res.bind_ok ec
      dsimp only at ed
      split at ed
      · rename_i d3
        obtain ⟨d1, e3', ee⟩ := Res.bind_ok ed
        obtain ⟨d2, e4, ef⟩ := Res.bind_ok ee
        obtain ⟨r, e5, eg⟩ := Res.bind_ok ef
        cases Res.pure_ok eg
        obtain ⟨g1, q1, rfl⟩ := settle_ok e1
        obtain ⟨g2, q2, rfl⟩ := settle_ok e2
        clear ev ea eb ec ed ee ef
        refine ⟨ρ, g1.settle, ρ1, R, e1, fun x H1 x1 R1 r1 => ?_⟩
        obtain ⟨p, rfl, isd⟩ := tr_isD (K := X.K) (HR.look R1 r1 (Res.of_ok e0)) hk
        refine ⟨p, rfl, isd, ρ1, g2.settle, ρ2, R1, e2, fun y H2 x2 R2 r2 => ⟨ρ2, .val d3, ρ', R2, e3, fun z H3 x3 R3 r3 => ?_⟩⟩
        have t1 := HR.look R3 (HR.later r1 (x2.trans x3)) (Res.of_ok e3')
        have t2 := HR.look R3 (HR.later r2 x3) (Res.of_ok e4)
        have e5 := Res.of_ok e5
        unfold dGetM at e5
        split at e5
        · rename_i eq; cases eq
        · rename_i kvs kk dx eq
          cases eq
          cases e6 : dKey d2 with
          | none => rw [e6] at e5; cases e5
          | some key =>
            rw [e6] at e5
            cases e5
            obtain ⟨p', vs, e7, hp, rk⟩ := t1.inv_dct
            cases e7
            rw [dKey_some e6] at t2
            have e8 := rep_kD t2
            subst e8
            refine ⟨_, dkey_in hp key, ?_⟩
            rcases repK_get rk key with ⟨v, d, l1, l2, rr⟩ | ⟨l1, l2⟩
            · rw [l1]
              refine k _ H3 ((x1.trans x2).trans x3) R3 ?_
              simp only [atK, l2, Option.getD_some, Option.getD_none]
              exact rr
            · rw [l1]
              refine k _ H3 ((x1.trans x2).trans x3) R3 ?_
              simp only [atK, l2, Option.getD_some, Option.getD_none]
              exact r3
        · cases e5
      · cases ed
    · cases eb

/-! ### slices -/
abbrev PV := Rho → Res (Option Int × Rho)
def tPv (C : Ct) (f : PV) : TO := fun σ H Q => ∃ ρ o ρ', EnvR C σ H ρ ∧ f ρ = .ok (o, ρ') ∧ ∀ H', Ext H H' → EnvR C σ H' ρ' → Q o H'
def pvNo : PV := fun ρ => .ok (none, ρ)
def pvOf (f : EV) : PV := fun ρ => do
  let (h, ρ1) ← f ρ
  match h with
  | .val (.int i) => pure (some i, ρ1)
  | _ => .bad
theorem po_imp {o : Option Expr} {t t' : TO} (h : PO X o t) (i : ∀ σ H Q, t' σ H Q → t σ H Q) : PO X o t' := ⟨fun pins s σ H Q I q => h.run pins s σ H Q I (i σ H Q q)⟩
theorem po_pvNo : PO X none (tPv C pvNo) := po_imp po_none fun σ H Q q => by
  obtain ⟨ρ, o, ρ', R, ev, k⟩ := q
  cases ev
  exact k H Ext.refl R
theorem po_pvOf (h : PE X e (tEv C f)) : PO X (some e) (tPv C (pvOf f)) := po_imp (po_some h) fun σ H Q q => by
  obtain ⟨ρ, o, ρ', R, ev, k⟩ := q
  obtain ⟨⟨h, ρ1⟩, e1, ea⟩ := Res.bind_ok ev
  dsimp only at ea
  split at ea
  · cases Res.pure_ok ea
    refine ⟨ρ, _, ρ', R, e1, fun v H1 x1 R1 r1 => ?_⟩
    cases (show Rep C.G H1 v (.int _) from r1)
    exact ⟨_, rfl, k H1 x1 R1⟩
  · cases ea
def evSl (f : EV) (p q : PV) : EV := fun ρ => do
  let (h, ρ1) ← settle f ρ
  let (lo, ρ2) ← p ρ1
  let (hi, ρ3) ← q ρ2
  let d ← Res.of (look ρ3 h)
  let r ← Res.of (dSl d lo hi)
  pure (r, ρ3)
theorem pe_evSl {lo hi : Option Expr} {fp fq : PV} {p2 : Pos} (hK : X.K = C.G.K) (he : PE X e (tEv C f)) (hl : PO X lo (tPv C fp)) (hh : PO X hi (tPv C fq)) : PE X (.Subscript e (.Slice lo hi none p2) pos) (tEv C (evSl f fp fq)) :=
  pe_imp (pe_slice (sld (G := C.G) hK) (pe_settle he) hl hh) fun σ H Q q => by
    obtain ⟨ρ, h, ρ', R, ev, k⟩ := q
    obtain ⟨⟨h1, ρ1⟩, e1, ea⟩ := Res.bind_ok ev
    obtain ⟨⟨l, ρ2⟩, e2, eb⟩ := Res.bind_ok ea
    obtain ⟨⟨u, ρ3⟩, e3, ec⟩ := Res.bind_ok eb
    obtain ⟨d, e4, ed⟩ := Res.bind_ok ec
    obtain ⟨r, e5, ee⟩ := Res.bind_ok ed
    cases Res.pure_ok ee
    obtain ⟨g1, q1, rfl⟩ := settle_ok e1
    refine ⟨ρ, g1.settle, ρ1, R, e1, fun x H1 x1 R1 r1 => ⟨ρ1, l, ρ2, R1, e2, fun H2 x2 R2 => ⟨ρ2, u, ρ', R2, e3, fun H3 x3 R3 => ?_⟩⟩⟩
    exact ⟨d, h, HR.look R3 (HR.later r1 (x2.trans x3)) (Res.of_ok e4), Res.of_ok e5, fun v H4 gr n => k v H4 (((x1.trans x2).trans x3).trans gr.ext) (R3.grow gr) (n.hr R3)⟩
end
end Ft
set_option Elab.async false
set_option linter.all false
set_option maxRecDepth 100000
set_option maxHeartbeats 2000000
/-! FtJ: statements: what a piece of syntax does with the slots. -/
namespace Ft
open PySem PySem.Spec PySem.Calls PyProof.Rows L2

inductive Out where
  | next
  | brk
  | cont
  | ret (h : Hd)
abbrev SV := Rho → Res (Out × Rho)
def OutR (C : Ct) (D : Ends) (ρ : Rho) (σ : L2.St) (H : Hp) : Out → Prop
  | .next => D.nx σ H
  | .brk => D.bk σ H
  | .cont => D.ct σ H
  | .ret h => ∀ v, HR C σ H ρ v h → D.rt v H
def tSv (C : Ct) (f : SV) : TS := fun D σ H => ∃ ρ o ρ', EnvR C σ H ρ ∧ f ρ = .ok (o, ρ') ∧ ∀ σ' H', Ext H H' → EnvR C σ' H' ρ' → OutR C D ρ' σ' H' o

/-! ### storing into a name -/
def Hd.keep (ρ : Rho) : Hd → Res (Hd × Rho)
  | .slot i => Hd.give ρ (.slot i)
  | h => .ok (h, ρ)
/-- what goes into a name: a new thing stays one's own, what another name held is frozen -/
def keep (f : EV) : EV := fun ρ => do
  let (h, ρ') ← f ρ
  h.keep ρ'
theorem keep_ok {f : EV} {ρ ρ' : Rho} {h : Hd} (e : keep f ρ = .ok (h, ρ')) : ∃ h0 ρ0, f ρ = .ok (h0, ρ0) ∧ h0.keep ρ0 = .ok (h, ρ') := by
  obtain ⟨⟨h0, ρ0⟩, e1, e2⟩ := Res.bind_ok e
  exact ⟨h0, ρ0, e1, e2⟩
/-- slot i takes what is handed back -/
def Rho.store (ρ : Rho) (i : Nat) : Hd → Option Rho
  | .val d => match ρ[i]? with
    | some (.ln _) => none
    | some _ => some (ρ.set i (.sh d))
    | none => none
  | .tmp d => match ρ[i]? with
    | some (.ln _) => none
    | some _ => some (ρ.set i (.ow d))
    | none => none
  | .slot _ => none

section
variable {X : Cx} {C : Ct} {σ : L2.St} {H H' : Hp} {ρ ρ' : Rho} {a b c e : Expr} {es : List Expr} {f fa fb fc : EV} {pos p : Pos}
theorem pe_keep (h : PE X e (tEv C f)) : PE X e (tEv C (keep f)) := by
  refine pe_ghost h fun σ H Q q => ?_
  obtain ⟨ρ, h1, ρ', R, ev, k⟩ := q
  obtain ⟨h0, ρ0, ev0, eg⟩ := keep_ok ev
  refine ⟨ρ, h0, ρ0, R, ev0, fun v H' x R' hr pins s I => ?_⟩
  cases h0 with
  | val d => cases eg; exact ⟨H', I, k v H' x R' hr⟩
  | tmp d => cases eg; exact ⟨H', I, k v H' x R' hr⟩
  | slot i =>
    simp only [Hd.keep, Hd.give] at eg
    split at eg
    · rename_i d q
      cases eg
      have hv : σ[i]? = some (some v) := hr
      obtain ⟨a, e1, o, _⟩ := R'.ow i d (own_of_ow q)
      rw [hv] at e1; cases e1
      obtain ⟨H2, I2, x2, r2, k2⟩ := o.freeze I
      exact ⟨H2, I2, k _ H2 (x.trans x2) (R'.shared q hv x2 r2 k2) r2⟩
    · cases eg
theorem keep_noslot {i : Nat} (e : keep f ρ = .ok (.slot i, ρ')) : False := by
  obtain ⟨h0, ρ0, _, eg⟩ := keep_ok e
  cases h0 with
  | val d => cases eg
  | tmp d => cases eg
  | slot j =>
    simp only [Hd.keep, Hd.give] at eg
    split at eg <;> cases eg
/-- any slot but a lent one may be given up for a frozen thing or a new one -/
theorem EnvR.stored (R : EnvR C σ H ρ) {i : Nat} {v : V} {h : Hd} {ρ2 : Rho} (e : ρ.store i h = some ρ2) (r : HR C σ H ρ v h) : EnvR C (σ.set i (some v)) H ρ2 := by
  have form : ∃ s, ρ2 = ρ.set i s ∧ i < ρ.length ∧ (∀ d, ρ[i]? ≠ some (.ln d)) ∧ ((∃ d, s = .sh d ∧ h = .val d) ∨ ∃ d, s = .ow d ∧ h = .tmp d) := by
    unfold Rho.store at e
    split at e
    · split at e
      · cases e
      · rename_i q1 q2
        cases e
        exact ⟨_, rfl, (List.getElem?_eq_some_iff.mp q2).1, fun d z => by rw [q2] at z; cases z; exact q1 d rfl, .inl ⟨_, rfl, rfl⟩⟩
      · cases e
    · split at e
      · cases e
      · rename_i q1 q2
        cases e
        exact ⟨_, rfl, (List.getElem?_eq_some_iff.mp q2).1, fun d z => by rw [q2] at z; cases z; exact q1 d rfl, .inr ⟨_, rfl, rfl⟩⟩
      · cases e
    · cases e
  obtain ⟨s, rfl, il, nl, kd⟩ := form
  have iσ : i < σ.length := by rw [← R.len]; exact il
  have own2 : ∀ j w, Rho.own (ρ.set i s) j = some w → (j = i ∧ s.own = some w) ∨ (j ≠ i ∧ Rho.own ρ j = some w) := fun j w q => own_set q
  have sσ : ∀ {j : Nat}, j ≠ i → (σ.set i (some v))[j]? = σ[j]? := fun hj => List.getElem?_set_ne (Ne.symm hj)
  refine ⟨fun j w q => ?_, fun j w q => ?_, fun j b q => ?_, fun j l w1 w2 b q1 q2 s1 s2 => ?_, R.frame, by rw [List.length_set, List.length_set]; exact R.len⟩
  · by_cases hj : j = i
    · subst hj
      rw [List.getElem?_set_self il] at q
      cases q
      rcases kd with ⟨d, e1, rfl⟩ | ⟨d, e1, _⟩
      · cases e1
        exact ⟨v, List.getElem?_set_self iσ, r⟩
      · cases e1
    · rw [List.getElem?_set_ne (Ne.symm hj)] at q
      rw [sσ hj]
      exact R.sh j w q
  · rcases own2 j w q with ⟨rfl, z⟩ | ⟨hj, z⟩
    · rcases kd with ⟨d, rfl, _⟩ | ⟨d, rfl, rfl⟩
      · cases z
      · cases z
        obtain ⟨a, rfl, o, z0, _⟩ := r
        exact ⟨a, List.getElem?_set_self iσ, o, .inl z0⟩
    · rw [sσ hj]
      exact R.ow j w z
  · obtain ⟨q1, w, q2⟩ := R.ln j b q
    have hj : j ≠ i := fun z => nl w (z ▸ q2)
    rw [sσ hj, List.getElem?_set_ne (Ne.symm hj)]
    exact ⟨q1, w, q2⟩
  · rcases own2 j w1 q1 with ⟨rfl, z1⟩ | ⟨hj, z1⟩
    · rcases own2 l w2 q2 with ⟨rfl, z2⟩ | ⟨hl, z2⟩
      · rfl
      · rw [sσ hl] at s2
        rw [List.getElem?_set_self iσ] at s1
        cases s1
        rcases kd with ⟨d, rfl, _⟩ | ⟨d, rfl, rfl⟩
        · cases z1
        · obtain ⟨a, e1, o, z0, n⟩ := r
          cases e1
          exact absurd s2 (n l w2 z2)
    · rw [sσ hj] at s1
      rcases own2 l w2 q2 with ⟨rfl, z2⟩ | ⟨hl, z2⟩
      · rw [List.getElem?_set_self iσ] at s2
        cases s2
        rcases kd with ⟨d, rfl, _⟩ | ⟨d, rfl, rfl⟩
        · cases z2
        · obtain ⟨a, e1, o, z0, n⟩ := r
          cases e1
          exact absurd s1 (n j w1 z1)
      · rw [sσ hl] at s2
        exact R.apart j l w1 w2 b z1 z2 s1 s2
end

/-! ### the pieces' meanings -/
def svSeq (f g : SV) : SV := fun ρ => do
  let (o, ρ1) ← f ρ
  match o with
  | .next => g ρ1
  | o => pure (o, ρ1)
def svNext : SV := fun ρ => .ok (.next, ρ)
def svBreak : SV := fun ρ => .ok (.brk, ρ)
def svCont : SV := fun ρ => .ok (.cont, ρ)
def svExpr (f : EV) : SV := fun ρ => do
  let (_, ρ1) ← f ρ
  pure (.next, ρ1)
def svRet (f : EV) : SV := fun ρ => do
  let (h, ρ1) ← f ρ
  pure (.ret h, ρ1)
def svRetN : SV := fun ρ => .ok (.ret (.val .non), ρ)
def svIf (c : BV) (f g : SV) : SV := fun ρ => do
  let (b, ρ1) ← c ρ
  if b then f ρ1 else g ρ1
def svSet (i : Nat) (f : EV) : SV := fun ρ => do
  let (h, ρ1) ← keep f ρ
  let ρ2 ← Res.of (ρ1.store i h)
  pure (.next, ρ2)
/-- code that is never reached -/
def svBad : SV := fun _ => .bad

section
variable {X : Cx} {C : Ct} {σ : L2.St} {H H' : Hp} {ρ ρ' : Rho} {a b c e : Expr} {es : List Expr} {f fa fb fc : EV} {pos p : Pos} {st : Stmt} {rest : List Stmt} {F F' : SV}
theorem ps_imp {t t' : TS} (h : PS X st t) (i : ∀ D σ H, t' D σ H → t D σ H) : PS X st t' := ⟨fun pins s σ H D I q => h.run pins s σ H D I (i D σ H q)⟩
theorem pss_imp {sts : List Stmt} {t t' : TS} (h : PSs X sts t) (i : ∀ D σ H, t' D σ H → t D σ H) : PSs X sts t' := ⟨fun pins s σ H D I q => h.run pins s σ H D I (i D σ H q)⟩
theorem sv_later {D : Ends} (h : tSv C F D σ H) (x : Ext H' H) : ∃ ρ o ρ', EnvR C σ H ρ ∧ F ρ = .ok (o, ρ') ∧ ∀ σ1 H1, Ext H H1 → EnvR C σ1 H1 ρ' → OutR C D ρ' σ1 H1 o := h
theorem pss_seq (h1 : PS X st (tSv C F)) (h2 : PSs X rest (tSv C F')) : PSs X (st :: rest) (tSv C (svSeq F F')) := pss_imp (pss_cons h1 h2) fun D σ H q => by
  obtain ⟨ρ, o, ρ', R, ev, k⟩ := q
  obtain ⟨⟨o1, ρ1⟩, e1, ea⟩ := Res.bind_ok ev
  refine ⟨ρ, o1, ρ1, R, e1, fun σ1 H1 x1 R1 => ?_⟩
  dsimp only at ea
  split at ea
  · exact ⟨ρ1, o, ρ', R1, ea, fun σ2 H2 x2 R2 => k σ2 H2 (x1.trans x2) R2⟩
  · rename_i hne
    cases Res.pure_ok ea
    have z := k σ1 H1 x1 R1
    cases o with
    | next => exact absurd rfl hne
    | brk => exact z
    | cont => exact z
    | ret h => exact z
theorem pss_last (h1 : PS X st (tSv C F)) : PSs X [st] (tSv C F) := pss_one h1
theorem pss_none : PSs X [] (tSv C svNext) := pss_imp pss_nil fun D σ H q => by
  obtain ⟨ρ, o, ρ', R, ev, k⟩ := q
  cases ev
  exact k σ H Ext.refl R
theorem ps_svPass : PS X (.Pass pos) (tSv C svNext) := ps_imp ps_pass fun D σ H q => by
  obtain ⟨ρ, o, ρ', R, ev, k⟩ := q
  cases ev
  exact k σ H Ext.refl R
theorem ps_svBreak : PS X (.Break pos) (tSv C svBreak) := ps_imp ps_break fun D σ H q => by
  obtain ⟨ρ, o, ρ', R, ev, k⟩ := q
  cases ev
  exact k σ H Ext.refl R
theorem ps_svCont : PS X (.Continue pos) (tSv C svCont) := ps_imp ps_continue fun D σ H q => by
  obtain ⟨ρ, o, ρ', R, ev, k⟩ := q
  cases ev
  exact k σ H Ext.refl R
theorem ps_svBad : PS X st (tSv C svBad) := ps_imp ps_never fun D σ H q => by
  obtain ⟨ρ, o, ρ', R, ev, k⟩ := q
  cases ev
theorem pss_svBad {sts : List Stmt} : PSs X sts (tSv C svBad) := pss_imp pss_never fun D σ H q => by
  obtain ⟨ρ, o, ρ', R, ev, k⟩ := q
  cases ev
theorem ps_svExpr (he : PE X e (tEv C f)) (hs : swapsWith e none pos.line X.env = pure false := by rfl) : PS X (.Expr e pos) (tSv C (svExpr f)) := ps_imp (ps_expr he hs) fun D σ H q => by
  obtain ⟨ρ, o, ρ', R, ev, k⟩ := q
  obtain ⟨⟨h, ρ1⟩, e1, ea⟩ := Res.bind_ok ev
  cases Res.pure_ok ea
  exact ⟨ρ, h, _, R, e1, fun v H1 x1 R1 _ => k σ H1 x1 R1⟩
theorem ps_svRet (he : PE X e (tEv C f)) : PS X (.Return (some e) pos) (tSv C (svRet f)) := ps_imp (ps_ret he) fun D σ H q => by
  obtain ⟨ρ, o, ρ', R, ev, k⟩ := q
  obtain ⟨⟨h, ρ1⟩, e1, ea⟩ := Res.bind_ok ev
  cases Res.pure_ok ea
  exact ⟨ρ, h, _, R, e1, fun v H1 x1 R1 r => k σ H1 x1 R1 v r⟩
theorem ps_svRetN : PS X (.Return none pos) (tSv C svRetN) := ps_imp ps_retN fun D σ H q => by
  obtain ⟨ρ, o, ρ', R, ev, k⟩ := q
  cases ev
  exact k σ H Ext.refl R .non .non
theorem ps_svIf {fc : BV} {s1 s2 : List Stmt} (hc : PT X c (tBv C fc)) (ha : PSs X s1 (tSv C F)) (hb : PSs X s2 (tSv C F')) : PS X (.If c s1 s2 pos) (tSv C (svIf fc F F')) := ps_imp (ps_if hc ha hb) fun D σ H q => by
  obtain ⟨ρ, o, ρ', R, ev, k⟩ := q
  obtain ⟨⟨b1, ρ1⟩, e1, ea⟩ := Res.bind_ok ev
  refine ⟨ρ, b1, ρ1, R, e1, fun H1 x1 R1 => ?_⟩
  cases b1 with
  | true => exact ⟨ρ1, o, ρ', R1, ea, fun σ2 H2 x2 R2 => k σ2 H2 (x1.trans x2) R2⟩
  | false => exact ⟨ρ1, o, ρ', R1, ea, fun σ2 H2 x2 R2 => k σ2 H2 (x1.trans x2) R2⟩
theorem ps_svSet {i : Nat} {x : Str} {pos' : Pos} (hN : X.N.Nodup) (hi : X.N[i]? = some x) (hx : Loc X.env.scope x) (he : PE X e (tEv C f)) (hs : swapsWith e (some (.Name x pos')) pos.line X.env = pure false := by rfl) (hf : X.fn x = true ∨ X.env.scope.names.lookup x = some .local := by first | exact .inl rfl | exact .inr rfl | assumption) :
    PS X (.Assign [.Name x pos'] e pos) (tSv C (svSet i f)) := ps_imp (ps_set hN hi hx (pe_keep he) hs hf) fun D σ H q => by
  obtain ⟨ρ, o, ρ', R, ev, k⟩ := q
  obtain ⟨⟨h, ρ1⟩, e1, ea⟩ := Res.bind_ok ev
  obtain ⟨ρ2, e2, eb⟩ := Res.bind_ok ea
  cases Res.pure_ok eb
  exact ⟨ρ, h, ρ1, R, e1, fun v H1 x1 R1 r => k _ H1 x1 (R1.stored (Res.of_ok e2) r)⟩

/-! ### targets -/
abbrev GT := D → Rho → Option Rho
/-- ws: the slots that may be written -/
def tGt (C : Ct) (ws : List Nat) (g : GT) : TG := fun v σ H Q => ∃ d ρ ρ', EnvR C σ H ρ ∧ Rep C.G H v d ∧ g d ρ = some ρ' ∧ ∀ σ' H', Ext H H' → EnvR C σ' H' ρ' → σ'.length = σ.length → (∀ i, i ∉ ws → σ'[i]? = σ[i]?) → Q σ' H'
abbrev GTs := List D → Rho → Option Rho
def tGts (C : Ct) (ws : List Nat) (g : GTs) : TGs := fun vs σ H Q => ∃ ds ρ ρ', EnvR C σ H ρ ∧ Reps C.G H vs ds ∧ g ds ρ = some ρ' ∧ ∀ σ' H', Ext H H' → EnvR C σ' H' ρ' → σ'.length = σ.length → (∀ i, i ∉ ws → σ'[i]? = σ[i]?) → Q σ' H'
def gtName (i : Nat) : GT := fun d ρ => ρ.store i (.val d)
def gtNil : GTs
  | [], ρ => some ρ
  | _ :: _, _ => none
def gtCons (g : GT) (r : GTs) : GTs
  | [], _ => none
  | d :: ds, ρ => (g d ρ).bind fun ρ1 => r ds ρ1
def gtTup (n : Nat) (r : GTs) : GT
  | .tup ds, ρ => if ds.length = n then r ds ρ else none
  | .lst ds, ρ => if ds.length = n then r ds ρ else none
  | _, _ => none
variable {ws : List Nat}
theorem pg_imp {tg : Expr} {t t' : TG} (h : PG X tg t) (i : ∀ v σ H Q, t' v σ H Q → t v σ H Q) : PG X tg t' := ⟨fun pins s σ H v u Q I r q => h.run pins s σ H v u Q I r (i v σ H Q q)⟩
theorem pgs_imp {ts : List Expr} {t t' : TGs} (h : PGs X ts t) (i : ∀ v σ H Q, t' v σ H Q → t v σ H Q) : PGs X ts t' := ⟨fun pins s σ H v u Q I r q => h.run pins s σ H v u Q I r (i v σ H Q q)⟩
theorem pg_gtName {i : Nat} {x : Str} (hN : X.N.Nodup) (hi : X.N[i]? = some x) (hx : Loc X.env.scope x) (hw : i ∈ ws) (hf : X.fn x = true ∨ X.env.scope.names.lookup x = some .local := by first | exact .inl rfl | exact .inr rfl | assumption) : PG X (.Name x pos) (tGt C ws (gtName i)) :=
  pg_imp (pg_name hN hi hx hf) fun v σ H Q q => by
    obtain ⟨d, ρ, ρ', R, r, e, k⟩ := q
    exact k _ H Ext.refl (R.stored e r) (List.length_set ..) fun j hj => List.getElem?_set_ne fun z => hj (by rw [← z]; exact hw)
theorem pgs_gtNil : PGs X [] (tGts C ws gtNil) := pgs_imp pgs_nil fun v σ H Q q => by
  obtain ⟨ds, ρ, ρ', R, r, e, k⟩ := q
  cases r with
  | nil => cases e; exact ⟨rfl, k σ H Ext.refl R rfl fun _ _ => rfl⟩
  | cons _ _ => cases e
theorem pgs_gtCons {g : GT} {r : GTs} (h1 : PG X e (tGt C ws g)) (h2 : PGs X es (tGts C ws r))
    (hs : (assignEach (e :: es) X.env).map (·.2) = assign e X.env :: (assignEach es X.env).map (·.2) := by rfl) : PGs X (e :: es) (tGts C ws (gtCons g r)) :=
  pgs_imp (pgs_cons h1 h2 hs) fun vs σ H Q q => by
    obtain ⟨ds, ρ, ρ', R, rr, e, k⟩ := q
    cases rr with
    | nil => cases e
    | @cons v d vs ds q1 q2 =>
      obtain ⟨ρ1, e1, e2⟩ := Option.bind_eq_some_iff.mp e
      exact ⟨v, vs, rfl, d, ρ, ρ1, R, q1, e1, fun σ1 H1 x1 R1 l1 s1 => ⟨ds, ρ1, ρ', R1, q2.ext x1, e2, fun σ2 H2 x2 R2 l2 s2 => k σ2 H2 (x1.trans x2) R2 (l2.trans l1) fun i hi => (s2 i hi).trans (s1 i hi)⟩⟩
theorem pg_gtTup {n k : Nat} {r : GTs} (hK : X.K = C.G.K) (hc : X.calm = true) (h : PGs X es (tGts C ws r)) (hn : (assignEach es X.env).length = n := by rfl) (hst : (assignEach es X.env).findIdx? (·.1) = none := by rfl) : PG X (.Tuple es k pos) (tGt C ws (gtTup n r)) :=
  ⟨fun pins s σ H v u Q I rv q => by
    obtain ⟨d, ρ, ρ', R, rr, e, k⟩ := q
    cases rr with
    | @tup a vs ds ht rs =>
      unfold gtTup at e
      dsimp only at e
      split at e
      · rename_i hl
        exact (pg_tup hc h hn hst).run pins s σ H _ u Q I rv ⟨a, vs, rfl, hK ▸ ht, by rw [rs.length]; exact hl, ds, ρ, ρ', R, rs, e, k⟩
      · cases e
    | @lst a vs ds ht rs =>
      unfold gtTup at e
      dsimp only at e
      split at e
      · rename_i hl
        exact (pg_lst hc h hn hst).run pins s σ H _ u Q I rv ⟨a, vs, rfl, .inl ht.rd, by rw [rs.length]; exact hl, ds, ρ, ρ', R, rs, e, k⟩
      · cases e
    | _ => cases e⟩
/-- a, (b, c) = e -/
def svAsg (g : GT) (f : EV) : SV := fun ρ => do
  let (d, ρ1) ← given f ρ
  let ρ2 ← Res.of (g d ρ1)
  pure (.next, ρ2)
theorem ps_svAsg {tg : Expr} {g : GT} (he : PE X e (tEv C f)) (hg : PG X tg (tGt C ws g)) (hs : swapsWithSole [tg] e pos.line X.env = pure false := by rfl) (hw : swappedStores [tg] e X.env = pure none := by rfl)
    (h1 : (assignEach [tg] X.env).map (·.2) = [assign tg X.env] := by rfl) : PS X (.Assign [tg] e pos) (tSv C (svAsg g f)) :=
  ps_imp (ps_asg (pe_give he) hg hs hw h1) fun D σ H q => by
    obtain ⟨ρ, o, ρ', R, ev, k⟩ := q
    obtain ⟨⟨d, ρ1⟩, e1, ea⟩ := Res.bind_ok ev
    obtain ⟨ρ2, e2, eb⟩ := Res.bind_ok ea
    cases Res.pure_ok eb
    exact ⟨ρ, .val d, ρ1, R, given_ok e1, fun v H1 x1 R1 r => ⟨d, ρ1, _, R1, r, Res.of_ok e2, fun σ2 H2 x2 R2 _ _ => k σ2 H2 (x1.trans x2) R2⟩⟩
/-- x[k] = e, x an own name -/
def svSub (i : Nat) (fk f : EV) : SV := fun ρ => do
  let (d, ρ1) ← given f ρ
  let _ ← Res.of (Rho.own ρ1 i)
  let (h, ρ2) ← settle fk ρ1
  let dk ← Res.of (look ρ2 h)
  let d0 ← Res.of (Rho.own ρ2 i)
  let d' ← Res.of (sSet d0 dk d)
  let ρ3 ← Res.of (ρ2.put i d')
  pure (.next, ρ3)
theorem ps_svSub {i : Nat} {x : Str} {k : Expr} {fk : EV} {spos : Pos} (hu : X.A.units + 64 < cLine) (hN : X.N[i]? = some x) (hv : Vis X.env.scope x) (hd : (x == ("__debug__" : Str)) = false) (hcd : (x == ("__classdict__" : Str)) = false) (hk : PE X k (tEv C fk)) (he : PE X e (tEv C f))
    (ha : ∀ v, assign (.Subscript (.Name x p) k spos) X.env v = (do
      let ov ← holding [v] (eval (.Name x p) X.env)
      let iv ← holding [v, ov] (eval k X.env)
      standAt spos
      holding [v, ov, iv] (setItem ov iv v)
      release [v, ov, iv] []) := by intro _; rfl)
    (hs : swapsWithSole [.Subscript (.Name x p) k spos] e pos.line X.env = pure false := by rfl) (hw : swappedStores [.Subscript (.Name x p) k spos] e X.env = pure none := by rfl)
    (h1 : (assignEach [.Subscript (.Name x p) k spos] X.env).map (·.2) = [assign (.Subscript (.Name x p) k spos) X.env] := by rfl) : PS X (.Assign [.Subscript (.Name x p) k spos] e pos) (tSv C (svSub i fk f)) :=
  ps_imp (ps_asg (pe_give he) (pg_sub (pe_var hN hv hd hcd) (pe_settle hk) (psetd (G := C.G) hu) ha) hs hw h1) fun D σ H q => by
    obtain ⟨ρ, o, ρ', R, ev, k⟩ := q
    obtain ⟨⟨d, ρ1⟩, e1, ez⟩ := Res.bind_ok ev
    obtain ⟨dz, e0, ea⟩ := Res.bind_ok ez
    obtain ⟨⟨h, ρ2⟩, e2, eb⟩ := Res.bind_ok ea
    obtain ⟨dk, e3, ec⟩ := Res.bind_ok eb
    obtain ⟨d0, e4, ed⟩ := Res.bind_ok ec
    obtain ⟨d', e5, ee⟩ := Res.bind_ok ed
    obtain ⟨ρ3, e6, ef⟩ := Res.bind_ok ee
    cases Res.pure_ok ef
    refine ⟨ρ, .val d, ρ1, R, given_ok e1, fun v H1 x1 R1 r => ?_⟩
    obtain ⟨a, s, _, _⟩ := R1.ow i dz (Res.of_ok e0)
    refine ⟨_, s, ρ1, h, ρ2, R1, e2, fun y H2 x2 R2 r2 => ?_⟩
    obtain ⟨a', s', o2, _⟩ := R2.ow i d0 (Res.of_ok e4)
    rw [s] at s'; cases s'
    exact ⟨a, d0, dk, d, d', rfl, o2, HR.look R2 r2 (Res.of_ok e3), Rep.ext x2 r, Res.of_ok e5, fun H3 x3 k3 o3 => k σ H3 ((x1.trans x2).trans x3) (R2.put (Res.of_ok e6) s x3 k3 o3)⟩
end
end Ft
set_option Elab.async false
set_option linter.all false
set_option maxRecDepth 100000
set_option maxHeartbeats 2000000
/-! FtK: loops. -/
namespace Ft
open PySem PySem.Spec PySem.Calls PyProof.Rows L2

/-! ### what an iterator yields -/
def ItR (G : Pg) (J : It) (ds : List D) (H : Hp) : Prop := ∀ H', Ext H H' → ∀ i, (∀ d, ds[i]? = some d → J.go i H' ∧ ∀ x H'', J.yld i H' x H'' → Grow H' H'' ∧ Rep G H'' x d) ∧ (ds.length = i → J.stop i H')
abbrev IV := Rho → Res (List D × Rho)
def iIv (C : Ct) (f : IV) : TI := fun σ H R => ∃ ρ ds ρ', EnvR C σ H ρ ∧ f ρ = .ok (ds, ρ') ∧ ∀ J H', Ext H H' → EnvR C σ H' ρ' → ItR C.G J ds H' → R J H'
theorem ItR.ext {G : Pg} {J : It} {ds : List D} {H H' : Hp} (r : ItR G J ds H) (x : Ext H H') : ItR G J ds H' := fun H2 x2 i => r H2 (x.trans x2) i
def chars (x : Str) : List D := x.cps.toList.map fun c => .str ⟨#[c]⟩
def itemsOf : D → Option (List D)
  | .lst ds => some ds
  | .tup ds => some ds
  | .str x => some (chars x)
  | .dct kvs => some (kvs.map fun kv => kD kv.1)
  | .dcT kvs => some (kvs.map fun kv => .tup (kv.1.map kD))
  | _ => none
def ivOf (f : EV) : IV := fun ρ => do
  let (d, ρ1) ← given f ρ
  let ds ← Res.of (itemsOf d)
  pure (ds, ρ1)
def rangeD (lo : Int) (n : Nat) : List D := (List.range n).map fun (i : Nat) => D.int (lo + i)
def few62 (i : Int) : Bool := decide (-(2 ^ 62) ≤ i) && decide (i < 2 ^ 62)
def ivRange1 (f : EV) : IV := fun ρ => do
  let (d, ρ1) ← given f ρ
  match d with
  | .int j => if few62 j then pure (rangeD 0 j.toNat, ρ1) else .bad
  | _ => .bad
def ivRange2 (f g : EV) : IV := fun ρ => do
  let (d, ρ1) ← given f ρ
  let (e, ρ2) ← given g ρ1
  match d, e with
  | .int i, .int j => if few62 i && few62 j then pure (rangeD i (j - i).toNat, ρ2) else .bad
  | _, _ => .bad
def enumD (ds : List D) : List D := ds.zipIdx.map fun p => .tup [.int p.2, p.1]
def ivEnum (f : EV) : IV := fun ρ => do
  let (d, ρ1) ← given f ρ
  match d with
  | .lst ds => pure (enumD ds, ρ1)
  | _ => .bad
def zipD (ds es : List D) : List D := (ds.zip es).map fun p => .tup [p.1, p.2]
def ivZip (f g : EV) : IV := fun ρ => do
  let (d, ρ1) ← given f ρ
  let (e, ρ2) ← given g ρ1
  match d, e with
  | .lst ds, .lst es => pure (zipD ds es, ρ2)
  | .tup ds, .tup es => pure (zipD ds es, ρ2)
  | _, _ => .bad
/-- the items of a dict, of its values -/
def ivItems (f : EV) : IV := fun ρ => do
  let (d, ρ1) ← given f ρ
  match d with
  | .dct kvs => pure (kvs.map fun kv => .tup [kD kv.1, kv.2], ρ1)
  | _ => .bad
def ivValues (f : EV) : IV := fun ρ => do
  let (d, ρ1) ← given f ρ
  match d with
  | .dct kvs => pure (kvs.map fun kv => kv.2, ρ1)
  | _ => .bad

section
variable {X : Cx} {C : Ct} {σ : L2.St} {H H' : Hp} {ρ ρ' : Rho} {a b c e e2 tg : Expr} {es : List Expr} {f fa fb fc : EV} {pos p : Pos}
theorem pi_imp {t t' : TI} (h : PI X tg e t) (i : ∀ σ H R, t' σ H R → t σ H R) : PI X tg e t' := ⟨fun pins s σ H R I q => h.run pins s σ H R I (i σ H R q)⟩
theorem pi_or {t t' : TI} (h : PI X tg e t) (h' : PI X tg e t') : PI X tg e (fun σ H R => t σ H R ∨ t' σ H R) := ⟨fun pins s σ H R I q => q.elim (h.run pins s σ H R I) (h'.run pins s σ H R I)⟩
theorem RepK.get {G : Pg} : ∀ {vs : List (Key × V)} {ds : List (Key × D)} {i : Nat} {kv : Key × D}, RepK G H vs ds → ds[i]? = some kv → ∃ v, vs[i]? = some (kv.1, v) ∧ Rep G H v kv.2
  | _, _, _, _, .nil, e => by simp at e
  | _, _, 0, _, .cons r _, e => by simp at e; subst e; exact ⟨_, rfl, r⟩
  | _, _, i + 1, kv, .cons _ t, e => by
    obtain ⟨v, h1, h2⟩ := RepK.get (i := i) (kv := kv) t (by simpa using e)
    exact ⟨v, by simpa using h1, h2⟩
theorem itr_tup {G : Pg} {a : Addr} {vs : List V} {ds : List D} {K : PySem.W.Frag} (h : SqT K H a vs) (r : Reps G H vs ds) : ItR G (Itt K a) ds H := fun H' x i => by
  have s : SqT K H' a vs := sqT_ext x h
  refine ⟨fun d e => ?_, fun e => ⟨vs, s, by rw [r.length]; omega⟩⟩
  obtain ⟨v, e1, r1⟩ := (r.ext x).get e
  refine ⟨⟨vs, v, s, e1⟩, fun y H'' q => ?_⟩
  obtain ⟨rfl, q⟩ := q
  have e2 := q vs s
  rw [e1] at e2
  cases e2
  exact ⟨Grow.refl, r1⟩
theorem itr_str {G : Pg} {x : Str} : ItR G (Its x) (chars x) H := fun H' xx i => by
  refine ⟨fun d e => ?_, fun e => ?_⟩
  · unfold chars at e
    rw [List.getElem?_map] at e
    cases e1 : x.cps.toList[i]? with
    | none => rw [e1] at e; cases e
    | some c =>
      rw [e1] at e
      cases e
      have e2 : x.cps[i]? = some c := by simpa using e1
      refine ⟨(Array.getElem?_eq_some_iff.mp e2).1, fun y H'' q => ?_⟩
      obtain ⟨rfl, c', e3, rfl⟩ := q
      rw [e2] at e3
      cases e3
      exact ⟨Grow.refl, .str _⟩
  · show x.cps.size ≤ i
    unfold chars at e
    simp at e
    omega
theorem itr_keys {G : Pg} {a : Addr} {o : Obj} {kvs : List (Key × V)} {ds : List (Key × D)} (h : H a = some (.frz o (.dK kvs))) (r : RepK G H kvs ds) : ItR G (Itk a o kvs) (ds.map fun kv => kD kv.1) H := fun H' x i => by
  have h' := x.frz _ _ _ h
  have hl : kvs.length = ds.length := RepK.length r
  have hk : kvs.map (·.1) = ds.map (·.1) := repK_keys r
  refine ⟨fun d e => ?_, fun e => ⟨h', by rw [List.length_map] at e; omega⟩⟩
  rw [List.getElem?_map] at e
  cases e1 : ds[i]? with
  | none => rw [e1] at e; cases e
  | some kv =>
    rw [e1] at e
    cases e
    refine ⟨⟨h', by rw [hl]; exact (List.getElem?_eq_some_iff.mp e1).1⟩, fun y H'' q => ?_⟩
    obtain ⟨rfl, k, v, e2, rfl⟩ := q
    have e3 : (kvs.map (·.1))[i]? = some k := by rw [List.getElem?_map, e2]; rfl
    rw [hk, List.getElem?_map, e1] at e3
    cases e3
    refine ⟨Grow.refl, ?_⟩
    show Rep G H'' (kV kv.1) (kD kv.1)
    cases kv.1 with
    | inl i => exact .int i
    | inr x => exact .str x
theorem itr_keysT {G : Pg} {a : Addr} {o : Obj} {kvs : List (List Key × V)} {ds : List (List Key × D)} (h : H a = some (.frz o (.dT kvs))) (hl : kvs.length = ds.length) (hk : kvs.map (·.1) = ds.map (·.1)) : ItR G (Itkt a o kvs) (ds.map fun kv => .tup (kv.1.map kD)) H := fun H' x i => by
  have h' := x.frz _ _ _ h
  refine ⟨fun d e => ?_, fun e => ⟨h', by rw [List.length_map] at e; omega⟩⟩
  rw [List.getElem?_map] at e
  cases e1 : ds[i]? with
  | none => rw [e1] at e; cases e
  | some kv =>
    rw [e1] at e
    cases e
    refine ⟨⟨h', by rw [hl]; exact (List.getElem?_eq_some_iff.mp e1).1⟩, fun y H'' q => ?_⟩
    obtain ⟨rfl, k, v, t, e2, rfl, ht⟩ := q
    have e3 : (kvs.map (·.1))[i]? = some k := by rw [List.getElem?_map, e2]; rfl
    rw [hk, List.getElem?_map, e1] at e3
    cases e3
    refine ⟨Grow.refl, .tup (SqT.of ht) ?_⟩
    have go : ∀ l : List Key, Reps G H'' (l.map kV) (l.map kD) := fun l => by
      induction l with
      | nil => exact .nil
      | cons q l ih =>
        refine .cons ?_ ih
        cases q with
        | inl i => exact .int i
        | inr x => exact .str x
    exact go kv.1
theorem RepT.length' {G : Pg} : ∀ {vs : List (List Key × V)} {ds : List (List Key × D)}, RepT G H vs ds → vs.length = ds.length ∧ vs.map (·.1) = ds.map (·.1)
  | _, _, .nil => ⟨rfl, rfl⟩
  | _, _, .cons _ t => let ⟨a, b⟩ := RepT.length' t; ⟨congrArg Nat.succ a, by simp [b]⟩
theorem itr_range {G : Pg} {lo : Int} {n : Nat} : ItR G (Itr lo n) (rangeD lo n) H := fun H' x i => by
  refine ⟨fun d e => ?_, fun e => ?_⟩
  · unfold rangeD at e
    rw [List.getElem?_map] at e
    cases e1 : (List.range n)[i]? with
    | none => rw [e1] at e; cases e
    | some j =>
      rw [e1] at e
      cases e
      have hi : i < n := by simpa using (List.getElem?_eq_some_iff.mp e1).1
      rw [List.getElem?_range hi] at e1
      cases e1
      refine ⟨hi, fun y H'' q => ?_⟩
      obtain ⟨rfl, rfl⟩ := q
      exact ⟨Grow.refl, .int _⟩
  · show n ≤ i
    unfold rangeD at e
    simp at e
    omega
theorem itr_enum {G : Pg} {K : PySem.W.Frag} {a : Addr} {vs : List V} {ds : List D} (h : LstF H a vs) (r : Reps G H vs ds) : ItR G (Ite K a) (enumD ds) H := fun H' x i => by
  have s : SqL K H' a vs := .inl (h.ext x).rd
  refine ⟨fun d e => ?_, fun e => ⟨vs, s, by unfold enumD at e; simp at e; rw [r.length]; omega⟩⟩
  unfold enumD at e
  rw [List.getElem?_map] at e
  cases e1 : ds.zipIdx[i]? with
  | none => rw [e1] at e; cases e
  | some q =>
    rw [e1] at e
    cases e
    rw [List.getElem?_zipIdx] at e1
    cases e2 : ds[i]? with
    | none => rw [e2] at e1; cases e1
    | some d =>
      rw [e2] at e1
      cases e1
      obtain ⟨v, e3, r1⟩ := (r.ext x).get e2
      refine ⟨⟨vs, v, s, e3⟩, fun y H'' q => ?_⟩
      obtain ⟨T, w, rfl, hT, rfl, q⟩ := q
      have e4 := q vs s
      rw [e3] at e4
      cases e4
      have z := nr_tup (G := G) hT (.cons (.int (i : Nat)) (.cons r1 .nil))
      refine ⟨z.1, ?_⟩
      have z2 := z.2
      simpa [NR] using z2
theorem itr_zip {G : Pg} {K : PySem.W.Frag} {a b : Addr} {vs ws : List V} {ds es : List D} (h : LstF H a vs) (r : Reps G H vs ds) (h2 : LstF H b ws) (r2 : Reps G H ws es) : ItR G (Itz K a b) (zipD ds es) H := fun H' x i => by
  have s : SqL K H' a vs := .inl (h.ext x).rd
  have s2 : SqL K H' b ws := .inl (h2.ext x).rd
  refine ⟨fun d e => ?_, fun e => ⟨vs, ws, s, s2, by unfold zipD at e; simp at e; rw [r.length, r2.length]; omega⟩⟩
  unfold zipD at e
  rw [List.getElem?_map] at e
  cases e1 : (ds.zip es)[i]? with
  | none => rw [e1] at e; cases e
  | some q =>
    rw [e1] at e
    cases e
    obtain ⟨q1, q2⟩ := List.getElem?_zip_eq_some.mp e1
    obtain ⟨v, e3, t1⟩ := (r.ext x).get q1
    obtain ⟨w, e4, t2⟩ := (r2.ext x).get q2
    refine ⟨⟨vs, ws, v, w, s, s2, e3, e4⟩, fun y H'' q => ?_⟩
    obtain ⟨T, v', w', rfl, hT, rfl, q1, q2⟩ := q
    have e5 := q1 vs s
    have e6 := q2 ws s2
    rw [e3] at e5
    rw [e4] at e6
    cases e5
    cases e6
    have z := nr_tup (G := G) hT (.cons t1 (.cons t2 .nil))
    exact ⟨z.1, z.2⟩
theorem itr_zipT {G : Pg} {K : PySem.W.Frag} {a b : Addr} {vs ws : List V} {ds es : List D} (h : SqT K H a vs) (r : Reps G H vs ds) (h2 : SqT K H b ws) (r2 : Reps G H ws es) : ItR G (RZ.ItzT K a b) (zipD ds es) H := fun H' x i => by
  have s : SqT K H' a vs := sqT_ext x h
  have s2 : SqT K H' b ws := sqT_ext x h2
  refine ⟨fun d e => ?_, fun e => ⟨vs, ws, s, s2, by unfold zipD at e; simp at e; rw [r.length, r2.length]; omega⟩⟩
  unfold zipD at e
  rw [List.getElem?_map] at e
  cases e1 : (ds.zip es)[i]? with
  | none => rw [e1] at e; cases e
  | some q =>
    rw [e1] at e
    cases e
    obtain ⟨q1, q2⟩ := List.getElem?_zip_eq_some.mp e1
    obtain ⟨v, e3, t1⟩ := (r.ext x).get q1
    obtain ⟨w, e4, t2⟩ := (r2.ext x).get q2
    refine ⟨⟨vs, ws, v, w, s, s2, e3, e4⟩, fun y H'' q => ?_⟩
    obtain ⟨T, v', w', rfl, hT, rfl, q1, q2⟩ := q
    have e5 := q1 vs s
    have e6 := q2 ws s2
    rw [e3] at e5
    rw [e4] at e6
    cases e5
    cases e6
    have z := nr_tup (G := G) hT (.cons t1 (.cons t2 .nil))
    exact ⟨z.1, z.2⟩
theorem itr_items {G : Pg} {a : Addr} {o : Obj} {kvs : List (Key × V)} {ds : List (Key × D)} (h : H a = some (.frz o (.dK kvs))) (r : RepK G H kvs ds) : ItR G (Iti a o kvs) (ds.map fun kv => .tup [kD kv.1, kv.2]) H := fun H' x i => by
  have h' := x.frz _ _ _ h
  have hl : kvs.length = ds.length := RepK.length r
  have get : ∀ {i : Nat} {kv : Key × D}, ds[i]? = some kv → ∃ v, kvs[i]? = some (kv.1, v) ∧ Rep G H' v kv.2 := fun e => let ⟨v, e1, r1⟩ := RepK.get r e; ⟨v, e1, r1.ext x⟩
  refine ⟨fun d e => ?_, fun e => ⟨h', by rw [List.length_map] at e; omega⟩⟩
  rw [List.getElem?_map] at e
  cases e1 : ds[i]? with
  | none => rw [e1] at e; cases e
  | some kv =>
    rw [e1] at e
    cases e
    refine ⟨⟨h', by rw [hl]; exact (List.getElem?_eq_some_iff.mp e1).1⟩, fun y H'' q => ?_⟩
    obtain ⟨T, k, v, e2, rfl, hT, rfl⟩ := q
    obtain ⟨v', e3, r3⟩ := get e1
    rw [e3] at e2
    cases e2
    have key : Rep G H' (kV kv.1) (kD kv.1) := by
      cases kv.1 with
      | inl i => exact .int i
      | inr x => exact .str x
    have z := nr_tup (G := G) hT (.cons key (.cons r3 .nil))
    exact ⟨z.1, z.2⟩
theorem itr_values {G : Pg} {a : Addr} {o : Obj} {kvs : List (Key × V)} {ds : List (Key × D)} (h : H a = some (.frz o (.dK kvs))) (r : RepK G H kvs ds) : ItR G (Itd a o kvs) (ds.map fun kv => kv.2) H := fun H' x i => by
  have h' := x.frz _ _ _ h
  have hl : kvs.length = ds.length := RepK.length r
  have get : ∀ {i : Nat} {kv : Key × D}, ds[i]? = some kv → ∃ v, kvs[i]? = some (kv.1, v) ∧ Rep G H' v kv.2 := fun e => let ⟨v, e1, r1⟩ := RepK.get r e; ⟨v, e1, r1.ext x⟩
  refine ⟨fun d e => ?_, fun e => ⟨h', by rw [List.length_map] at e; omega⟩⟩
  rw [List.getElem?_map] at e
  cases e1 : ds[i]? with
  | none => rw [e1] at e; cases e
  | some kv =>
    rw [e1] at e
    cases e
    refine ⟨⟨h', by rw [hl]; exact (List.getElem?_eq_some_iff.mp e1).1⟩, fun y H'' q => ?_⟩
    obtain ⟨rfl, k, e2⟩ := q
    obtain ⟨v', e3, r3⟩ := get e1
    rw [e3] at e2
    cases e2
    exact ⟨Grow.refl, r3⟩

/-! ### the loops' heads -/
/-- a list, a tuple, a text, the keys of a dict -/
theorem pi_ivOf (hK : X.K = C.G.K) (he : PE X e (tEv C f)) : PI X tg e (iIv C (ivOf f)) := by
  have hg := pe_give he
  refine pi_imp (pi_or (pi_or (pi_list hg) (pi_tup hg)) (pi_or (pi_str hg) (pi_keys hg))) fun σ H R q => ?_
  obtain ⟨ρ, ds, ρ', Rn, ev, k⟩ := q
  obtain ⟨⟨d, ρ1⟩, e1, ea⟩ := Res.bind_ok ev
  obtain ⟨ds', e2, eb⟩ := Res.bind_ok ea
  cases Res.pure_ok eb
  have e1 := given_ok e1
  have e2 := Res.of_ok e2
  unfold itemsOf at e2
  split at e2
  · cases e2
    refine .inl (.inl ⟨ρ, _, _, Rn, e1, fun v H1 x1 R1 r => ?_⟩)
    cases (show Rep C.G H1 v (.lst _) from r) with
    | @lst a vs ds h rr =>
      refine ⟨a, rfl, ⟨vs, .inl h.rd⟩, k _ H1 x1 R1 fun H' x i => ?_⟩
      have s : SqL X.K H' a vs := .inl (h.ext x).rd
      refine ⟨fun d e => ?_, fun e => ⟨vs, s, by rw [rr.length]; omega⟩⟩
      obtain ⟨v, e1, r1⟩ := (rr.ext x).get e
      refine ⟨⟨vs, v, s, e1⟩, fun y H'' q => ?_⟩
      obtain ⟨rfl, q⟩ := q
      have e2 := q vs s
      rw [e1] at e2
      cases e2
      exact ⟨Grow.refl, r1⟩
  · cases e2
    refine .inl (.inr ⟨ρ, _, _, Rn, e1, fun v H1 x1 R1 r => ?_⟩)
    cases (show Rep C.G H1 v (.tup _) from r) with
    | @tup a vs ds h rr => exact ⟨a, rfl, ⟨vs, hK ▸ h⟩, k _ H1 x1 R1 (itr_tup (hK ▸ h) rr)⟩
  · cases e2
    refine .inr (.inl ⟨ρ, _, _, Rn, e1, fun v H1 x1 R1 r => ?_⟩)
    cases (show Rep C.G H1 v (.str _) from r)
    exact ⟨_, rfl, k _ H1 x1 R1 itr_str⟩
  · cases e2
    refine .inr (.inr ⟨ρ, _, _, Rn, e1, fun v H1 x1 R1 r => ?_⟩)
    cases (show Rep C.G H1 v (.dct _) from r) with
    | @dK a kvs ds h rr =>
      obtain ⟨o, h⟩ := h
      exact ⟨a, o, rfl, .inl ⟨kvs, h, k _ H1 x1 R1 (itr_keys h rr)⟩⟩
  · cases e2
    refine .inr (.inr ⟨ρ, _, _, Rn, e1, fun v H1 x1 R1 r => ?_⟩)
    cases (show Rep C.G H1 v (.dcT _) from r) with
    | @dT a kvs ds h rr =>
      obtain ⟨o, h⟩ := h
      have z := RepT.length' rr
      exact ⟨a, o, rfl, .inr ⟨kvs, h, k _ H1 x1 R1 (itr_keysT h z.1 z.2)⟩⟩
  · cases e2
theorem few62_of {i : Int} (h : few62 i = true) : -(2 ^ 62) ≤ i ∧ i < 2 ^ 62 := by
  unfold few62 at h
  simp only [Bool.and_eq_true, decide_eq_true_eq] at h
  exact h
theorem pi_ivRange1 (hg : Gl X "range") (hm : X.mg "range" = none) (ha : PE X a (tEv C fa)) (hs : starEach [a] X.env = [(false, eval a X.env)] := by rfl) : PI X tg (.Call (.Name "range" p) [a] [] pos) (iIv C (ivRange1 fa)) := by
  refine pi_imp (pi_range1 hg hm (pa_cons (pe_give ha) pa_nil hs) hs) fun σ H R q => ?_
  obtain ⟨ρ, ds, ρ', Rn, ev, k⟩ := q
  obtain ⟨⟨d, ρ1⟩, e1, ea⟩ := Res.bind_ok ev
  dsimp only at ea
  split at ea
  · split at ea
    · rename_i hf
      cases Res.pure_ok ea
      have z := few62_of hf
      refine ⟨ρ, _, _, Rn, given_ok e1, fun v H1 x1 R1 r => ?_⟩
      cases (show Rep C.G H1 v (.int _) from r)
      exact ⟨_, rfl, z.1, z.2, k _ H1 x1 R1 itr_range⟩
    · cases ea
  · cases ea
theorem pi_ivRange2 (hg : Gl X "range") (hm : X.mg "range" = none) (ha : PE X a (tEv C fa)) (hb : PE X b (tEv C fb)) (hs : starEach [a, b] X.env = [(false, eval a X.env), (false, eval b X.env)] := by rfl) (hs2 : starEach [b] X.env = [(false, eval b X.env)] := by rfl) :
    PI X tg (.Call (.Name "range" p) [a, b] [] pos) (iIv C (ivRange2 fa fb)) := by
  refine pi_imp (pi_range2 hg hm (pa_cons (pe_give ha) (pa_cons (pe_give hb) pa_nil hs2) (hs.trans (by rw [hs2]))) hs hs2) fun σ H R q => ?_
  obtain ⟨ρ, ds, ρ', Rn, ev, k⟩ := q
  obtain ⟨⟨d, ρ1⟩, e1, ea⟩ := Res.bind_ok ev
  obtain ⟨⟨d2, ρ2⟩, e2, eb⟩ := Res.bind_ok ea
  dsimp only at eb
  split at eb
  · split at eb
    · rename_i hf
      cases Res.pure_ok eb
      rw [Bool.and_eq_true] at hf
      have z1 := few62_of hf.1
      have z2 := few62_of hf.2
      refine ⟨ρ, _, _, Rn, given_ok e1, fun v H1 x1 R1 r => ⟨ρ1, _, _, R1, given_ok e2, fun w H2 x2 R2 r2 => ?_⟩⟩
      cases (show Rep C.G H1 v (.int _) from r)
      cases (show Rep C.G H2 w (.int _) from r2)
      exact ⟨_, _, rfl, ⟨z1.1, z1.2, z2.1, z2.2⟩, k _ H2 (x1.trans x2) R2 itr_range⟩
    · cases eb
  · cases eb
theorem pi_ivEnum {tpos : Pos} {elts : List Expr} {kk : Nat} (hg : Gl X "enumerate") (hm : X.mg "enumerate" = none) (ha : PE X a (tEv C fa)) (hs : starEach [a] X.env = [(false, eval a X.env)] := by rfl) :
    PI X (.Tuple elts kk tpos) (.Call (.Name "enumerate" p) [a] [] pos) (iIv C (ivEnum fa)) := by
  refine pi_imp (pi_enum hg hm (pa_cons (pe_give ha) pa_nil hs) hs) fun σ H R q => ?_
  obtain ⟨ρ, ds, ρ', Rn, ev, k⟩ := q
  obtain ⟨⟨d, ρ1⟩, e1, ea⟩ := Res.bind_ok ev
  dsimp only at ea
  split at ea
  · cases Res.pure_ok ea
    refine ⟨ρ, _, _, Rn, given_ok e1, fun v H1 x1 R1 r => ?_⟩
    cases (show Rep C.G H1 v (.lst _) from r) with
    | @lst a vs ds h rr => exact ⟨a, vs, rfl, .inl h.rd, k _ H1 x1 R1 (itr_enum h rr)⟩
  · cases ea
theorem pi_ivZip {tpos : Pos} {elts : List Expr} {kk : Nat} (hK : X.K = C.G.K) (hg : Gl X "zip") (hm : X.mg "zip" = none) (ha : PE X a (tEv C fa)) (hb : PE X b (tEv C fb))
    (hs : starEach [a, b] X.env = (false, eval a X.env) :: starEach [b] X.env := by rfl) (hs2 : starEach [b] X.env = [(false, eval b X.env)] := by rfl) (hpl : (backTo pos (starEach [b] X.env)).any (·.1) = false := by rfl) :
    PI X (.Tuple elts kk tpos) (.Call (.Name "zip" p) [a, b] [] pos) (iIv C (ivZip fa fb)) := by
  refine pi_imp (RZ.pi_zipA hg hm (pa_cons (pe_give ha) (pa_cons (pe_give hb) pa_nil hs2) hs) hs hpl) fun σ H R q => ?_
  obtain ⟨ρ, ds, ρ', Rn, ev, k⟩ := q
  obtain ⟨⟨d, ρ1⟩, e1, ea⟩ := Res.bind_ok ev
  obtain ⟨⟨d2, ρ2⟩, e2, eb⟩ := Res.bind_ok ea
  dsimp only at eb
  split at eb
  · cases Res.pure_ok eb
    refine ⟨ρ, _, _, Rn, given_ok e1, fun v H1 x1 R1 r => ⟨ρ1, _, _, R1, given_ok e2, fun w H2 x2 R2 r2 => ?_⟩⟩
    cases (show Rep C.G H1 v (.lst _) from r) with
    | @lst a vs ds h rr =>
      cases (show Rep C.G H2 w (.lst _) from r2) with
      | @lst b ws es h2 rr2 => exact ⟨a, b, vs, ws, rfl, .inl ⟨.inl (h.ext x2).rd, .inl h2.rd, k _ H2 (x1.trans x2) R2 (itr_zip (h.ext x2) (rr.ext x2) h2 rr2)⟩⟩
  · cases Res.pure_ok eb
    refine ⟨ρ, _, _, Rn, given_ok e1, fun v H1 x1 R1 r => ⟨ρ1, _, _, R1, given_ok e2, fun w H2 x2 R2 r2 => ?_⟩⟩
    cases (show Rep C.G H1 v (.tup _) from r) with
    | @tup a vs ds h rr =>
      cases (show Rep C.G H2 w (.tup _) from r2) with
      | @tup b ws es h2 rr2 =>
        have s1 : SqT X.K H2 a vs := hK ▸ sqT_ext x2 h
        have s2 : SqT X.K H2 b ws := hK ▸ h2
        exact ⟨a, b, vs, ws, rfl, .inr ⟨s1, s2, k _ H2 (x1.trans x2) R2 (itr_zipT s1 (rr.ext x2) s2 rr2)⟩⟩
  · cases eb
theorem pi_ivItems {tpos apos cpos : Pos} {elts : List Expr} {kk : Nat} (ha : PE X a (tEv C fa)) (hbase : attributeBase a "items" X.env (eval a X.env) = eval a X.env := by rfl) (hline : (apos.endLine == cpos.line) = true := by rfl) :
    PI X (.Tuple elts kk tpos) (.Call (.Attribute a "items" apos) [] [] cpos) (iIv C (ivItems fa)) := by
  refine pi_imp (pi_items (pe_give ha) hbase hline) fun σ H R q => ?_
  obtain ⟨ρ, ds, ρ', Rn, ev, k⟩ := q
  obtain ⟨⟨d, ρ1⟩, e1, ea⟩ := Res.bind_ok ev
  dsimp only at ea
  split at ea
  · cases Res.pure_ok ea
    refine ⟨ρ, _, _, Rn, given_ok e1, fun v H1 x1 R1 r => ?_⟩
    cases (show Rep C.G H1 v (.dct _) from r) with
    | @dK a kvs ds h rr =>
      obtain ⟨o, h⟩ := h
      exact ⟨a, o, kvs, rfl, h, k _ H1 x1 R1 (itr_items h rr)⟩
  · cases ea
theorem pi_ivValues {apos cpos : Pos} (ha : PE X a (tEv C fa)) (hbase : attributeBase a "values" X.env (eval a X.env) = eval a X.env := by rfl) (hline : (apos.endLine == cpos.line) = true := by rfl) :
    PI X tg (.Call (.Attribute a "values" apos) [] [] cpos) (iIv C (ivValues fa)) := by
  refine pi_imp (pi_values (pe_give ha) hbase hline) fun σ H R q => ?_
  obtain ⟨ρ, ds, ρ', Rn, ev, k⟩ := q
  obtain ⟨⟨d, ρ1⟩, e1, ea⟩ := Res.bind_ok ev
  dsimp only at ea
  split at ea
  · cases Res.pure_ok ea
    refine ⟨ρ, _, _, Rn, given_ok e1, fun v H1 x1 R1 r => ?_⟩
    cases (show Rep C.G H1 v (.dct _) from r) with
    | @dK a kvs ds h rr =>
      obtain ⟨o, h⟩ := h
      exact ⟨a, o, kvs, rfl, h, k _ H1 x1 R1 (itr_values h rr)⟩
  · cases ea
end

/-! ### the loops -/
def forLoop (g : GT) (body : SV) : List D → SV
  | [], ρ => .ok (.next, ρ)
  | d :: ds, ρ => do
    let ρ1 ← Res.of (g d ρ)
    let (o, ρ2) ← body ρ1
    match o with
    | .next => forLoop g body ds ρ2
    | .cont => forLoop g body ds ρ2
    | .brk => pure (.next, ρ2)
    | .ret h => pure (.ret h, ρ2)
def svFor (it : IV) (g : GT) (body : SV) : SV := fun ρ => do
  let (ds, ρ1) ← it ρ
  forLoop g body ds ρ1
def whileLoop (c : BV) (body : SV) : Nat → SV
  | 0, _ => .bad
  | n + 1, ρ => do
    let (b, ρ1) ← c ρ
    if b then
      let (o, ρ2) ← body ρ1
      match o with
      | .next => whileLoop c body n ρ2
      | .cont => whileLoop c body n ρ2
      | .brk => pure (.next, ρ2)
      | .ret h => pure (.ret h, ρ2)
    else pure (.next, ρ1)
section
variable {X : Cx} {C : Ct} {σ : L2.St} {H H' : Hp} {ρ ρ' : Rho} {a b c e e2 tg : Expr} {es : List Expr} {f fa fb fc : EV} {pos p : Pos}
theorem ps_svFor {ws : List Nat} {it : IV} {g : GT} {F : SV} {body : List Stmt} (hp : PassesOwn (model X.prog X.w) X.A X.env X.xe) (hc : X.calm = true) (hi : PI X tg e (iIv C it)) (hg : PG X tg (tGt C ws g)) (hb : PSs X body (tSv C F))
    (hs : ∀ x, foldedSetIterable e X.env x = pure x := by intro _; rfl) : PS X (.For tg e body [] pos) (tSv C (svFor it g F)) :=
  ps_imp (ps_for hp hc hi hg hb hs) fun Dd σ H q => by
    obtain ⟨ρ, o, ρ', R, ev, k⟩ := q
    obtain ⟨⟨ds, ρ1⟩, e1, ea⟩ := Res.bind_ok ev
    refine ⟨ρ, ds, ρ1, R, e1, fun J H1 x1 R1 r1 => ?_⟩
    refine ⟨fun i m σ H => m = ds.length - i ∧ i ≤ ds.length ∧ Ext H1 H ∧ ∃ ρ, EnvR C σ H ρ ∧ forLoop g F (ds.drop i) ρ = .ok (o, ρ'), ⟨ds.length, by simp, Nat.zero_le _, Ext.refl, ρ1, R1, by simpa using ea⟩, ?_⟩
    rintro i m σ2 H2 ⟨rfl, hi, x2, ρ2, R2, e2⟩
    by_cases hlt : i < ds.length
    · have ed : ds.drop i = ds[i] :: ds.drop (i + 1) := by rw [List.drop_eq_getElem_cons hlt]
      rw [ed] at e2
      obtain ⟨ρ3, e3, eb⟩ := Res.bind_ok e2
      obtain ⟨⟨o4, ρ4⟩, e4, ec⟩ := Res.bind_ok eb
      obtain ⟨go, yl⟩ := (r1 H2 x2 i).1 _ (List.getElem?_eq_getElem hlt)
      refine .inr ⟨go, fun σ' H' => Ext H1 H' ∧ ∃ ρ, EnvR C σ' H' ρ ∧ forLoop g F (ds.drop (i + 1)) ρ = .ok (o, ρ'), fun σ' H' ⟨x3, z⟩ => ⟨_, by omega, rfl, hlt, x3, z⟩, fun x H3 y => ?_⟩
      obtain ⟨gr, rp⟩ := yl x H3 y
      refine ⟨ds[i], ρ2, ρ3, R2.grow gr, rp, Res.of_ok e3, fun σ4 H4 x4 R4 _ _ => ⟨ρ3, o4, ρ4, R4, e4, fun σ5 H5 x5 R5 => ?_⟩⟩
      have xx : Ext H1 H5 := ((x2.trans gr.ext).trans x4).trans x5
      cases o4 with
      | next => exact ⟨xx, ρ4, R5, ec⟩
      | cont => exact ⟨xx, ρ4, R5, ec⟩
      | brk =>
        cases Res.pure_ok ec
        exact k σ5 H5 (x1.trans xx) R5
      | ret h =>
        cases Res.pure_ok ec
        exact k σ5 H5 (x1.trans xx) R5
    · have e : ds.length = i := by omega
      refine .inl ⟨(r1 H2 x2 i).2 e, ?_⟩
      rw [List.drop_eq_nil_of_le (by omega)] at e2
      cases e2
      exact k σ2 H2 (x1.trans x2) R2
theorem ps_svWhile {cb : BV} {F : SV} {n : Nat} {body : List Stmt} (hp : PassesOwn (model X.prog X.w) X.A X.env X.xe) (hc : PT X c (tBv C cb)) (hb : PSs X body (tSv C F)) : PS X (.While c body [] pos) (tSv C (whileLoop cb F n)) :=
  ps_imp (ps_while hp hc hb) fun Dd σ H q => by
    obtain ⟨ρ, o, ρ', R, ev, k⟩ := q
    refine ⟨fun m σ' H' => Ext H H' ∧ ∃ ρ, EnvR C σ' H' ρ ∧ whileLoop cb F m ρ = .ok (o, ρ'), ⟨n, Ext.refl, ρ, R, ev⟩, ?_⟩
    rintro m σ1 H1 ⟨x1, ρ1, R1, e1⟩
    cases m with
    | zero => cases e1
    | succ m =>
      obtain ⟨⟨b, ρ2⟩, e2, ea⟩ := Res.bind_ok e1
      refine ⟨ρ1, b, ρ2, R1, e2, fun H2 x2 R2 => ?_⟩
      cases b with
      | false =>
        rw [if_neg Bool.false_ne_true]
        cases Res.pure_ok ea
        exact k σ1 H2 (x1.trans x2) R2
      | true =>
        rw [if_pos rfl]
        obtain ⟨⟨o3, ρ3⟩, e3, eb⟩ := Res.bind_ok ea
        refine ⟨fun σ' H' => Ext H H' ∧ ∃ ρ, EnvR C σ' H' ρ ∧ whileLoop cb F m ρ = .ok (o, ρ'), fun σ' H' z => ⟨m, Nat.lt_succ_self m, z⟩, ρ2, o3, ρ3, R2, e3, fun σ4 H4 x4 R4 => ?_⟩
        have xx : Ext H H4 := (x1.trans x2).trans x4
        cases o3 with
        | next => exact ⟨xx, ρ3, R4, eb⟩
        | cont => exact ⟨xx, ρ3, R4, eb⟩
        | brk =>
          cases Res.pure_ok eb
          exact k σ4 H4 xx R4
        | ret h =>
          cases Res.pure_ok eb
          exact k σ4 H4 xx R4
end
end Ft
set_option Elab.async false
set_option linter.all false
set_option maxRecDepth 100000
set_option maxHeartbeats 2000000
/-! FtL: a thing held beside the slots; list comprehensions. -/
namespace Ft
open PySem PySem.Spec PySem.Calls PyProof.Rows L2

/-! ### a new thing held while something else runs -/
abbrev Ct.with (C : Ct) (H0 : Hp) : Ct := ⟨C.G, H0, C.M⟩
abbrev Ct.hold (C : Ct) (D : Addr) (u : HO) : Ct := C.with (upd C.H0 D u)
section
variable {C : Ct} {σ : L2.St} {H H' : Hp} {ρ ρ' : Rho} {D : Addr} {u u' : HO}
theorem EnvR.notLent (R : EnvR C σ H ρ) (h : H D = none) : ¬ C.lent D := fun ⟨i, m⟩ => by
  obtain ⟨d, _, o⟩ := R.lentAt m
  obtain ⟨w, q⟩ := o.there
  rw [h] at q; cases q
theorem EnvR.holdOn (R : EnvR C σ H ρ) (e : H D = some u) (l : ¬ C.lent D) (n : ∀ (i : Nat) (d : Ft.D), Rho.own ρ i = some d → σ[i]? ≠ some (some (.ref D))) : EnvR (C.hold D u) σ H ρ where
  sh := R.sh
  ow := fun i d q => by
    obtain ⟨a, q1, q2, q3⟩ := R.ow i d q
    refine ⟨a, q1, q2, ?_⟩
    rcases q3 with q3 | q3
    · refine .inl ?_
      show upd C.H0 D u a = none
      rw [upd_ne (fun z => n i d q (by rw [← z]; exact q1))]
      exact q3
    · exact .inr q3
  ln := R.ln
  apart := R.apart
  frame := fun a w q l' => by
    by_cases z : a = D
    · subst z
      have q : upd C.H0 a u a = some w := q
      rw [upd_same] at q
      cases q
      exact e
    · have q : upd C.H0 D u a = some w := q
      rw [upd_ne z] at q
      exact R.frame a w q l'
  len := R.len
theorem EnvR.holdOff (R : EnvR (C.hold D u) σ H ρ) (h0 : C.H0 D = none) : EnvR C σ H ρ where
  sh := R.sh
  ow := fun i d q => by
    obtain ⟨a, q1, q2, q3⟩ := R.ow i d q
    refine ⟨a, q1, q2, ?_⟩
    rcases q3 with q3 | q3
    · have q3 : upd C.H0 D u a = none := q3
      by_cases z : a = D
      · subst z; rw [upd_same] at q3; cases q3
      · rw [upd_ne z] at q3; exact .inl q3
    · exact .inr q3
  ln := R.ln
  apart := R.apart
  frame := fun a w q l' => R.frame a w (by show upd C.H0 D u a = some w; rw [upd_ne (fun z => by rw [z, h0] at q; cases q)]; exact q) l'
  len := R.len
theorem EnvR.held (R : EnvR (C.hold D u) σ H ρ) (l : ¬ C.lent D) : H D = some u := R.frame D u (by show upd C.H0 D u D = some u; exact upd_same) l
theorem EnvR.holdApart (R : EnvR (C.hold D u) σ H ρ) (l : ¬ C.lent D) : ∀ (i : Nat) (d : Ft.D), Rho.own ρ i = some d → σ[i]? ≠ some (some (.ref D)) := fun i d q z => by
  obtain ⟨a, q1, q2, q3⟩ := R.ow i d q
  rw [z] at q1
  cases q1
  rcases q3 with q3 | q3
  · have q3 : upd C.H0 D u D = none := q3
    rw [upd_same] at q3; cases q3
  · exact l ⟨i, q3⟩
/-- what is held is changed -/
theorem EnvR.rehold (R : EnvR (C.hold D u) σ H ρ) (l : ¬ C.lent D) (x : Ext H (upd H D u')) : EnvR (C.hold D u') σ (upd H D u') ρ where
  sh := fun i d q => let ⟨v, q1, q2⟩ := R.sh i d q; ⟨v, q1, q2.ext x⟩
  ow := fun i d q => by
    obtain ⟨a, q1, q2, q3⟩ := R.ow i d q
    have ne : a ≠ D := fun z => R.holdApart l i d q (z ▸ q1)
    refine ⟨a, q1, q2.keep x fun w z => by rw [upd_ne ne]; exact z, ?_⟩
    rcases q3 with q3 | q3
    · have q3 : upd C.H0 D u a = none := q3
      rw [upd_ne ne] at q3
      refine .inl ?_
      show upd C.H0 D u' a = none
      rw [upd_ne ne]
      exact q3
    · exact .inr q3
  ln := R.ln
  apart := R.apart
  frame := fun a w q l' => by
    have q : upd C.H0 D u' a = some w := q
    by_cases z : a = D
    · subst z
      rw [upd_same] at q ⊢
      exact q
    · rw [upd_ne z] at q ⊢
      exact R.frame a w (by show upd C.H0 D u a = some w; rw [upd_ne z]; exact q) l'
  len := R.len
end

/-! ### whatever is held -/
def uEv (C : Ct) (f : EV) : TE := fun σ H Q => ∃ H0, tEv (C.with H0) f σ H Q
def uBv (C : Ct) (f : BV) : TT := fun σ H Q => ∃ H0, tBv (C.with H0) f σ H Q
def uGt (C : Ct) (ws : List Nat) (g : GT) : TG := fun v σ H Q => ∃ H0, tGt (C.with H0) ws g v σ H Q
def uIv (C : Ct) (f : IV) : TI := fun σ H R => ∃ H0, iIv (C.with H0) f σ H R
section
variable {X : Cx} {C : Ct} {e tg : Expr}
theorem pe_u {f : EV} (h : ∀ H0, PE X e (tEv (C.with H0) f)) : PE X e (uEv C f) := ⟨fun pins s σ H Q I ⟨H0, q⟩ => (h H0).run pins s σ H Q I q⟩
theorem pt_u {f : BV} (h : ∀ H0, PT X e (tBv (C.with H0) f)) : PT X e (uBv C f) := ⟨fun pins s σ H Q I ⟨H0, q⟩ => (h H0).run pins s σ H Q I q⟩
theorem pg_u {ws : List Nat} {g : GT} (h : ∀ H0, PG X e (tGt (C.with H0) ws g)) : PG X e (uGt C ws g) := ⟨fun pins s σ H v u Q I r ⟨H0, q⟩ => (h H0).run pins s σ H v u Q I r q⟩
theorem pi_u {f : IV} (h : ∀ H0, PI X tg e (iIv (C.with H0) f)) : PI X tg e (uIv C f) := ⟨fun pins s σ H R I ⟨H0, q⟩ => (h H0).run pins s σ H R I q⟩
/-- a clause's tests -/
def bvYes : BV := fun ρ => .ok (true, ρ)
theorem pts_bvYes : PTs X [] (tBv C bvYes) := ⟨fun pins s σ H Q I q => pts_nil.run pins s σ H Q I (by
  obtain ⟨ρ, b, ρ', R, ev, k⟩ := q
  cases ev
  exact k H Ext.refl R)⟩
theorem pts_bv {f : BV} (h : PT X e (tBv C f)) : PTs X [e] (tBv C f) := pts_one h
theorem pts_u {es : List Expr} {f : BV} (h : ∀ H0, PTs X es (tBv (C.with H0) f)) : PTs X es (uBv C f) := ⟨fun pins s σ H Q I ⟨H0, q⟩ => (h H0).run pins s σ H Q I q⟩
end

/-! ### the block's own slots -/
def Rho.wipe (ρ : Rho) : List Nat → Rho
  | [] => ρ
  | v :: vs => (Rho.wipe ρ vs).set v .no
def Rho.unwipe (ρ ρe : Rho) : List Nat → Rho
  | [] => ρe
  | v :: vs => match ρ[v]? with
    | some s => (Rho.unwipe ρ ρe vs).set v s
    | none => Rho.unwipe ρ ρe vs
def Rho.idle (ρ : Rho) (vs : List Nat) : Bool := vs.all fun i => match ρ[i]? with
  | some .no => true
  | some (.sh _) => true
  | _ => false
section
variable {C : Ct} {σ σ' : L2.St} {H H' : Hp} {ρ ρ' ρe : Rho} {vs : List Nat}
theorem wipeR_length (ρ : Rho) : ∀ vs : List Nat, (ρ.wipe vs).length = ρ.length
  | [] => rfl
  | v :: vs => by unfold Rho.wipe; rw [List.length_set, wipeR_length ρ vs]
theorem wipeR_out {i : Nat} : ∀ {vs : List Nat}, i ∉ vs → (Rho.wipe ρ vs)[i]? = ρ[i]?
  | [], _ => rfl
  | v :: vs, h => by
    unfold Rho.wipe
    rw [List.getElem?_set_ne (fun e => h (by simp [e]))]
    exact wipeR_out fun m => h (by simp [m])
theorem wipeR_in {i : Nat} {s : Slot} : ∀ {vs : List Nat}, i ∈ vs → (Rho.wipe ρ vs)[i]? = some s → s = .no
  | v :: vs, h, e => by
    unfold Rho.wipe at e
    by_cases z : v = i
    · subst z
      by_cases l : v < (Rho.wipe ρ vs).length
      · rw [List.getElem?_set_self l] at e; cases e; rfl
      · rw [List.getElem?_eq_none (by simpa using l)] at e; cases e
    · rw [List.getElem?_set_ne z] at e
      exact wipeR_in ((List.mem_cons.mp h).resolve_left fun y => z y.symm) e
theorem wipe_at {i : Nat} : ∀ {vs : List Nat}, i ∈ vs → i < σ.length → (L2.wipe σ vs)[i]? = some none
  | v :: vs, h, l => by
    unfold L2.wipe
    by_cases z : v = i
    · subst z
      rw [List.getElem?_set_self (by rw [wipe_length]; exact l)]
    · rw [List.getElem?_set_ne z]
      exact wipe_at ((List.mem_cons.mp h).resolve_left fun y => z y.symm) l
theorem wipe_same (hl : σ'.length = σ.length) (h : ∀ i, i ∉ vs → σ'[i]? = (L2.wipe σ vs)[i]?) : L2.wipe σ' vs = L2.wipe σ vs := by
  refine List.ext_getElem? fun i => ?_
  by_cases m : i ∈ vs
  · by_cases l : i < σ.length
    · rw [wipe_at m l, wipe_at m (by rw [hl]; exact l)]
    · rw [List.getElem?_eq_none (by rw [wipe_length, hl]; omega), List.getElem?_eq_none (by rw [wipe_length]; omega)]
  · rw [wipe_out m]
    exact h i m
theorem unwipe_length (ρ ρe : Rho) : ∀ vs : List Nat, (ρ.unwipe ρe vs).length = ρe.length
  | [] => rfl
  | v :: vs => by
    unfold Rho.unwipe
    split
    · rw [List.length_set, unwipe_length ρ ρe vs]
    · exact unwipe_length ρ ρe vs
theorem unwipe_out {i : Nat} : ∀ {vs : List Nat}, i ∉ vs → (Rho.unwipe ρ ρe vs)[i]? = ρe[i]?
  | [], _ => rfl
  | v :: vs, h => by
    unfold Rho.unwipe
    split
    · rw [List.getElem?_set_ne (fun e => h (by simp [e]))]
      exact unwipe_out fun m => h (by simp [m])
    · exact unwipe_out fun m => h (by simp [m])
theorem unwipe_in {i : Nat} (hl : ρe.length = ρ.length) : ∀ {vs : List Nat}, i ∈ vs → (Rho.unwipe ρ ρe vs)[i]? = ρ[i]?
  | v :: vs, h => by
    unfold Rho.unwipe
    by_cases z : v = i
    · subst z
      split
      · rename_i s e
        have l := (List.getElem?_eq_some_iff.mp e).1
        rw [List.getElem?_set_self (by rw [unwipe_length, hl]; exact l), e]
      · rename_i e
        rw [e]
        have := List.getElem?_eq_none_iff.mp e
        exact List.getElem?_eq_none (by rw [unwipe_length, hl]; exact this)
    · have m := (List.mem_cons.mp h).resolve_left fun y => z y.symm
      split
      · rw [List.getElem?_set_ne z]
        exact unwipe_in hl m
      · exact unwipe_in hl m
theorem idle_at (h : Rho.idle ρ vs = true) {i : Nat} (m : i ∈ vs) : ρ[i]? = some .no ∨ ∃ d, ρ[i]? = some (.sh d) := by
  have q := List.all_eq_true.mp h i m
  split at q
  · exact .inl (by assumption)
  · exact .inr ⟨_, by assumption⟩
  · cases q
theorem own_wipe {i : Nat} {d : D} (h : Rho.own (ρ.wipe vs) i = some d) : i ∉ vs ∧ Rho.own ρ i = some d := by
  by_cases m : i ∈ vs
  · rcases own_cases h with q | q <;> cases wipeR_in m q
  · refine ⟨m, ?_⟩
    unfold Rho.own at h ⊢
    rw [wipeR_out m] at h
    exact h
/-- the block begins, a turn begins: its own slots are forgotten -/
theorem EnvR.wipe (R : EnvR C σ' H ρ) (hσ : L2.wipe σ' vs = L2.wipe σ vs) (hl : σ'.length = σ.length) (nl : ∀ i a, (i, a) ∈ C.M → i ∉ vs) : EnvR C (L2.wipe σ vs) H (ρ.wipe vs) := by
  have same : ∀ {i : Nat}, i ∉ vs → (L2.wipe σ vs)[i]? = σ'[i]? := fun m => by rw [← hσ]; exact wipe_out m
  refine ⟨fun i d q => ?_, fun i d q => ?_, fun i a q => ?_, fun i j d e a q1 q2 s1 s2 => ?_, R.frame, ?_⟩
  · have m : i ∉ vs := fun m => by cases wipeR_in m q
    rw [wipeR_out m] at q
    rw [same m]
    exact R.sh i d q
  · obtain ⟨m, q⟩ := own_wipe q
    rw [same m]
    exact R.ow i d q
  · have m := nl i a q
    rw [same m, wipeR_out m]
    exact R.ln i a q
  · obtain ⟨m1, q1⟩ := own_wipe q1
    obtain ⟨m2, q2⟩ := own_wipe q2
    rw [same m1] at s1
    rw [same m2] at s2
    exact R.apart i j d e a q1 q2 s1 s2
  · rw [wipeR_length, wipe_length, R.len, hl]
theorem lent_out (R : EnvR C σ H ρ) (h : Rho.idle ρ vs = true) : ∀ i a, (i, a) ∈ C.M → i ∉ vs := fun i a q m => by
  obtain ⟨_, d, z⟩ := R.ln i a q
  rcases idle_at h m with e | ⟨d', e⟩
  · rw [e] at z; cases z
  · rw [e] at z; cases z
/-- the block is over -/
theorem EnvR.unwipe (R : EnvR C σ H ρ) (h : Rho.idle ρ vs = true) (x : Ext H H') (Re : EnvR C (L2.wipe σ vs) H' ρe) : EnvR C σ H' (ρ.unwipe ρe vs) := by
  have hl : ρe.length = ρ.length := by rw [Re.len, R.len, wipe_length]
  have nown : ∀ {i : Nat} {d : D}, Rho.own (ρ.unwipe ρe vs) i = some d → i ∉ vs ∧ Rho.own ρe i = some d := fun {i d} q => by
    by_cases m : i ∈ vs
    · unfold Rho.own at q
      rw [unwipe_in hl m] at q
      rcases idle_at h m with e | ⟨d', e⟩
      · rw [e] at q; cases q
      · rw [e] at q; cases q
    · refine ⟨m, ?_⟩
      unfold Rho.own at q ⊢
      rw [unwipe_out m] at q
      exact q
  refine ⟨fun i d q => ?_, fun i d q => ?_, fun i a q => ?_, fun i j d e a q1 q2 s1 s2 => ?_, Re.frame, ?_⟩
  · by_cases m : i ∈ vs
    · rw [unwipe_in hl m] at q
      obtain ⟨v, q1, q2⟩ := R.sh i d q
      exact ⟨v, q1, q2.ext x⟩
    · rw [unwipe_out m] at q
      rw [← wipe_out (σ := σ) m]
      exact Re.sh i d q
  · obtain ⟨m, q⟩ := nown q
    rw [← wipe_out (σ := σ) m]
    exact Re.ow i d q
  · have m := lent_out R h i a q
    obtain ⟨q1, q2⟩ := Re.ln i a q
    rw [wipe_out m] at q1
    exact ⟨q1, by rw [unwipe_out m]; exact q2⟩
  · obtain ⟨m1, q1⟩ := nown q1
    obtain ⟨m2, q2⟩ := nown q2
    rw [← wipe_out (σ := σ) m1] at s1
    rw [← wipe_out (σ := σ) m2] at s2
    exact Re.apart i j d e a q1 q2 s1 s2
  · rw [unwipe_length, Re.len, wipe_length]
end

/-! ### list comprehensions, one clause -/
def lcLoop (g : GT) (tt : BV) (f : EV) (vs : List Nat) : List D → Rho → Res (List D × Rho)
  | [], ρ => .ok ([], ρ)
  | d :: ds, ρ => do
    let ρ1 ← Res.of (g d ρ)
    let (b, ρ2) ← tt ρ1
    if b then
      let (x, ρ3) ← given f ρ2
      let (r, ρ4) ← lcLoop g tt f vs ds (ρ3.wipe vs)
      pure (x :: r, ρ4)
    else lcLoop g tt f vs ds (ρ2.wipe vs)
def evLc (it : IV) (g : GT) (tt : BV) (f : EV) (vs : List Nat) : EV := fun ρ => do
  let (ds, ρ1) ← it ρ
  if ρ1.idle vs && decide (ds.length ≤ 1000000) then
    let (r, ρ2) ← lcLoop g tt f vs ds (ρ1.wipe vs)
    pure (.tmp (.lst r), ρ1.unwipe ρ2 vs)
  else .bad
/-- the value that is handed on, whatever is held -/
def uGiven (C : Ct) (f : EV) : TE := uEv C (give f)
section
variable {X : Cx} {C : Ct} {σ : L2.St} {H H' : Hp} {ρ ρ' : Rho} {it : IV} {g : GT} {tt : BV} {f : EV} {vs : List Nat}
theorem ext_put {D : Addr} {xs ys : List V} (e : H D = some (.lst xs)) : Ext H (upd H D (.lst ys)) :=
  ⟨fun b vs q => by rw [upd_ne (fun z => by rw [z, e] at q; cases q)]; exact q, fun b o u q => by rw [upd_ne (fun z => by rw [z, e] at q; cases q)]; exact q⟩
theorem lc_imp {Q : VK} (h : tEv C (evLc it g tt f vs) σ H Q) : tLc (iIv C it) (uGt C vs g) (uBv C tt) (uGiven C f) vs σ H Q := by
  obtain ⟨ρ, h, ρ', R, ev, k⟩ := h
  obtain ⟨⟨ds, ρ1⟩, e1, ea⟩ := Res.bind_ok ev
  dsimp only at ea
  split at ea
  · rename_i hc
    rw [Bool.and_eq_true, decide_eq_true_eq] at hc
    obtain ⟨hid, hlen⟩ := hc
    obtain ⟨⟨r, ρ2⟩, e2, eb⟩ := Res.bind_ok ea
    cases Res.pure_ok eb
    refine ⟨ρ, ds, ρ1, R, e1, fun J H1 x1 R1 r1 D hD => ?_⟩
    have nl := R1.notLent hD
    have lo := lent_out R1 hid
    have h0 := R1.fresh hD
    have gD : Grow H1 (upd H1 D (.lst [])) := Grow.upd hD
    have start : EnvR (C.hold D (.lst [])) (L2.wipe σ vs) (upd H1 D (.lst [])) (ρ1.wipe vs) := by
      refine EnvR.wipe (σ' := σ) ?_ rfl rfl lo
      refine (R1.grow gD).holdOn upd_same nl fun i d q z => ?_
      obtain ⟨a, q1, q2, _⟩ := R1.ow i d q
      rw [z] at q1
      cases q1
      obtain ⟨w, q3⟩ := q2.there
      rw [hD] at q3; cases q3
    refine ⟨fun i m H => m = ds.length - i ∧ i ≤ ds.length ∧ ∃ (xs : List V) (acc rest : List Ft.D) (ρt : Rho), H D = some (.lst xs) ∧ Reps C.G H xs acc ∧ acc.length ≤ i ∧ Ext H1 H ∧ EnvR (C.hold D (.lst xs)) (L2.wipe σ vs) H ρt ∧
      lcLoop g tt f vs (ds.drop i) ρt = .ok (rest, ρ2) ∧ r = acc ++ rest, ⟨ds.length, by simp, Nat.zero_le _, [], [], r, ρ1.wipe vs, upd_same, .nil, Nat.le_refl _, gD.ext, start, by simpa using e2, rfl⟩, ?_⟩
    rintro i m H2 ⟨rfl, hi, xs, acc, rest, ρt, hx, ra, hal, x2, R2, el, er⟩
    by_cases hlt : i < ds.length
    · have ed : ds.drop i = ds[i] :: ds.drop (i + 1) := by rw [List.drop_eq_getElem_cons hlt]
      rw [ed] at el
      obtain ⟨ρ3, e3, eb⟩ := Res.bind_ok el
      obtain ⟨⟨b, ρ4⟩, e4, ec⟩ := Res.bind_ok eb
      obtain ⟨go, yl⟩ := (r1 H2 x2 i).1 _ (List.getElem?_eq_getElem hlt)
      refine .inr ⟨go, fun H => ∃ (xs : List V) (acc rest : List Ft.D) (ρt : Rho), H D = some (.lst xs) ∧ Reps C.G H xs acc ∧ acc.length ≤ i + 1 ∧ Ext H1 H ∧ EnvR (C.hold D (.lst xs)) (L2.wipe σ vs) H ρt ∧
        lcLoop g tt f vs (ds.drop (i + 1)) ρt = .ok (rest, ρ2) ∧ r = acc ++ rest, fun H' z => ⟨_, by omega, rfl, hlt, z⟩, fun x H3 y => ?_⟩
      obtain ⟨gr, rp⟩ := yl x H3 y
      refine ⟨upd C.H0 D (.lst xs), ds[i], ρt, ρ3, R2.grow gr, rp, Res.of_ok e3, fun σ4 H4 x4 R4 l4 s4 => ?_⟩
      have l4 : σ4.length = σ.length := by rw [l4, wipe_length]
      have w4 : L2.wipe σ4 vs = L2.wipe σ vs := wipe_same l4 s4
      have xx4 : Ext H1 H4 := (x2.trans gr.ext).trans x4
      refine ⟨w4, upd C.H0 D (.lst xs), ρ3, b, ρ4, R4, e4, fun H5 x5 R5 => ?_⟩
      have xx5 := xx4.trans x5
      cases b with
      | false =>
        dsimp only
        rw [if_neg Bool.false_ne_true]
        have ec : lcLoop g tt f vs (ds.drop (i + 1)) (ρ4.wipe vs) = .ok (rest, ρ2) := ec
        exact ⟨xs, acc, rest, ρ4.wipe vs, R5.held nl, ra.ext ((gr.ext.trans x4).trans x5), by omega, xx5, R5.wipe w4 l4 lo, ec, er⟩
      | true =>
        dsimp only
        rw [if_pos rfl]
        dsimp only at ec
        rw [if_pos rfl] at ec
        obtain ⟨⟨w, ρ5⟩, e5, ed⟩ := Res.bind_ok ec
        obtain ⟨⟨rest', ρ6⟩, e6, ee⟩ := Res.bind_ok ed
        cases Res.pure_ok ee
        refine ⟨upd C.H0 D (.lst xs), ρ4, .val w, ρ5, R5, given_ok e5, fun v H6 x6 R6 r6 => ?_⟩
        have hD6 := R6.held nl
        have la := ra.length
        have xp := ext_put (ys := xs ++ [v]) hD6
        refine ⟨xs, hD6, by rw [sizeLine_eq]; omega, xs ++ [v], acc ++ [w], rest', ρ5.wipe vs, upd_same, ?_, by simp; omega, (xx5.trans x6).trans xp, (R6.rehold nl xp).wipe w4 l4 lo, e6, by simp [er]⟩
        exact ((ra.ext (((gr.ext.trans x4).trans x5).trans x6)).append (.cons r6 .nil)).ext xp
    · have e : ds.length = i := by omega
      rw [List.drop_eq_nil_of_le (by omega)] at el
      cases el
      refine .inl ⟨(r1 H2 x2 i).2 e, ?_⟩
      rw [List.append_nil] at er
      subst er
      have Re := R2.holdOff h0
      refine k _ H2 (x1.trans x2) (R1.unwipe hid x2 Re) ⟨D, rfl, .lst hx ra, h0, fun j d q z => ?_⟩
      have hl : ρ2.length = ρ1.length := by rw [Re.len, R1.len, wipe_length]
      by_cases m : j ∈ vs
      · unfold Rho.own at q
        rw [unwipe_in hl m] at q
        rcases idle_at hid m with e | ⟨d', e⟩
        · rw [e] at q; cases q
        · rw [e] at q; cases q
      · unfold Rho.own at q
        rw [unwipe_out m] at q
        rw [← wipe_out (σ := σ) m] at z
        exact R2.holdApart nl j d q z
  · cases ea
variable {elt tg iter : Expr} {ifs : List Expr} {scope : Scope} {own : List (Str × Nat)} {pos : Pos}
theorem pe_evLc (hc : X.calm = true) (hN : X.N.Nodup) (hi : PI X tg iter (iIv C it)) (ok : BlkOk X.N X.env.scope scope own)
    (hg : ∀ (s : Shared) (H : Hp) (A : Addr) (cl : List (Str × Addr)) (fp : List Addr) (H0 : Hp), PG (X.blk s H scope (compEnvC scope cl A X.env) fp) tg (tGt (C.with H0) (own.map (·.2)) g))
    (ht : ∀ (s : Shared) (H : Hp) (A : Addr) (cl : List (Str × Addr)) (fp : List Addr) (H0 : Hp), PTs (X.blk s H scope (compEnvC scope cl A X.env) fp) ifs (tBv (C.with H0) tt))
    (he : ∀ (s : Shared) (H : Hp) (A : Addr) (cl : List (Str × Addr)) (fp : List Addr) (H0 : Hp), PE (X.blk s H scope (compEnvC scope cl A X.env) fp) elt (tEv (C.with H0) f)) (hs : ∀ x, foldedSetIterable iter X.env x = pure x := by intro _; rfl) :
    PE X (.ListComp elt [⟨tg, iter, ifs, 0⟩] scope pos) (tEv C (evLc it g tt f (own.map (·.2)))) :=
  pe_imp (pe_lc hc hN hi ok (fun s H A cl fp => pg_u (hg s H A cl fp)) (fun s H A cl fp => pts_u (ht s H A cl fp)) (fun s H A cl fp => pe_u fun H0 => pe_give (he s H A cl fp H0)) hs) fun _ _ _ h => lc_imp h
/-- name = [..] on one line -/
theorem svset_imp {i : Nat} {Dd : Ends} (h : tSv C (svSet i (evLc it g tt f vs)) Dd σ H) : tEv C (evLc it g tt f vs) σ H (fun x H1 => gName i x σ H1 Dd.nx) := by
  obtain ⟨ρ, o, ρ', R, ev, k⟩ := h
  obtain ⟨⟨h, ρ1⟩, e1, ea⟩ := Res.bind_ok ev
  obtain ⟨ρ2, e2, eb⟩ := Res.bind_ok ea
  cases Res.pure_ok eb
  obtain ⟨h0, ρ0, e3, e4⟩ := keep_ok e1
  have tmp : h = h0 ∧ ρ1 = ρ0 := by
    cases h0 with
    | val d => cases e4; exact ⟨rfl, rfl⟩
    | tmp d => cases e4; exact ⟨rfl, rfl⟩
    | slot j =>
      exfalso
      obtain ⟨⟨ds, ρ3⟩, _, q⟩ := Res.bind_ok e3
      dsimp only at q
      split at q
      · obtain ⟨⟨r, ρ4⟩, _, q2⟩ := Res.bind_ok q
        cases q2
      · cases q
  obtain ⟨rfl, rfl⟩ := tmp
  exact ⟨ρ, h, ρ1, R, e3, fun v H1 x1 R1 r => k _ H1 x1 (R1.stored (Res.of_ok e2) r)⟩
theorem ps_svSetLc {i : Nat} {y : Str} {py spos : Pos} (hc : X.calm = true) (hN : X.N.Nodup) (hy : X.N[i]? = some y) (hyl : X.env.scope.names.lookup y = some .local)
    (hsw : swapsWith (.ListComp elt [⟨tg, iter, ifs, 0⟩] scope pos) (some (.Name y py)) spos.line X.env = pure true) (hi : PI X tg iter (iIv C it)) (ok : BlkOk X.N X.env.scope scope own)
    (hg : ∀ (s : Shared) (H : Hp) (A : Addr) (cl : List (Str × Addr)) (fp : List Addr) (H0 : Hp), PG (X.blk s H scope (compEnvC scope cl A X.env) fp) tg (tGt (C.with H0) (own.map (·.2)) g))
    (ht : ∀ (s : Shared) (H : Hp) (A : Addr) (cl : List (Str × Addr)) (fp : List Addr) (H0 : Hp), PTs (X.blk s H scope (compEnvC scope cl A X.env) fp) ifs (tBv (C.with H0) tt))
    (he : ∀ (s : Shared) (H : Hp) (A : Addr) (cl : List (Str × Addr)) (fp : List Addr) (H0 : Hp), PE (X.blk s H scope (compEnvC scope cl A X.env) fp) elt (tEv (C.with H0) f)) (hs : ∀ x, foldedSetIterable iter X.env x = pure x := by intro _; rfl) :
    PS X (.Assign [.Name y py] (.ListComp elt [⟨tg, iter, ifs, 0⟩] scope pos) spos) (tSv C (svSet i (evLc it g tt f (own.map (·.2))))) :=
  ps_imp (ps_setLc hc hN hy hyl hsw hi ok (fun s H A cl fp => pg_u (hg s H A cl fp)) (fun s H A cl fp => pts_u (ht s H A cl fp)) (fun s H A cl fp => pe_u fun H0 => pe_give (he s H A cl fp H0)) hs) fun Dd σ H h => lc_imp (svset_imp h)
end

/-! ### two clauses -/
def lcOut (g : GT) (tt : BV) (it1 : IV) (g1 : GT) (tt1 : BV) (f : EV) (vs vs1 : List Nat) : List D → Rho → Res (List D × Rho)
  | [], ρ => .ok ([], ρ)
  | d :: ds, ρ => do
    let ρ1 ← Res.of (g d ρ)
    let (b, ρ2) ← tt ρ1
    if b then
      let (es, ρ3) ← it1 ρ2
      if es.length ≤ 1000 then
        let (x, ρ4) ← lcLoop g1 tt1 f vs1 es (ρ3.wipe vs1)
        let (r, ρ5) ← lcOut g tt it1 g1 tt1 f vs vs1 ds (ρ4.wipe vs)
        pure (x ++ r, ρ5)
      else .bad
    else lcOut g tt it1 g1 tt1 f vs vs1 ds (ρ2.wipe vs)
def evLc2 (it : IV) (g : GT) (tt : BV) (it1 : IV) (g1 : GT) (tt1 : BV) (f : EV) (vs vs1 : List Nat) : EV := fun ρ => do
  let (ds, ρ1) ← it ρ
  if ρ1.idle vs && decide (ds.length ≤ 1000) then
    let (r, ρ2) ← lcOut g tt it1 g1 tt1 f vs vs1 ds (ρ1.wipe vs)
    pure (.tmp (.lst r), ρ1.unwipe ρ2 vs)
  else .bad
section
variable {X : Cx} {C : Ct} {σ σ' : L2.St} {H H' : Hp} {ρ ρ' : Rho} {it it1 : IV} {g g1 : GT} {tt tt1 : BV} {f : EV} {vs vs1 : List Nat}
theorem wipe_sub (hs : ∀ i ∈ vs1, i ∈ vs) (h : L2.wipe σ' vs = L2.wipe σ vs) (hl : σ'.length = σ.length) : L2.wipe (L2.wipe σ' vs1) vs = L2.wipe σ vs := by
  refine wipe_same (by rw [wipe_length, hl]) fun i hi => ?_
  rw [wipe_out fun m => hi (hs i m), ← h, wipe_out hi]
theorem lc2_imp {Q : VK} (hs : ∀ i ∈ vs1, i ∈ vs) (h : tEv C (evLc2 it g tt it1 g1 tt1 f vs vs1) σ H Q) : tLc2 (iIv C it) (uGt C vs g) (uBv C tt) (uIv C it1) (uGt C vs1 g1) (uBv C tt1) (uGiven C f) vs vs1 σ H Q := by
  obtain ⟨ρ, h, ρ', R, ev, k⟩ := h
  obtain ⟨⟨ds, ρ1⟩, e1, ea⟩ := Res.bind_ok ev
  dsimp only at ea
  split at ea
  · rename_i hc
    rw [Bool.and_eq_true, decide_eq_true_eq] at hc
    obtain ⟨hid, hlen⟩ := hc
    obtain ⟨⟨r, ρ2⟩, e2, eb⟩ := Res.bind_ok ea
    cases Res.pure_ok eb
    refine ⟨ρ, ds, ρ1, R, e1, fun J H1 x1 R1 r1 D hD => ?_⟩
    have nl := R1.notLent hD
    have lo := lent_out R1 hid
    have lo1 : ∀ i a, (i, a) ∈ C.M → i ∉ vs1 := fun i a q m => lo i a q (hs i m)
    have h0 := R1.fresh hD
    have gD : Grow H1 (upd H1 D (.lst [])) := Grow.upd hD
    have start : EnvR (C.hold D (.lst [])) (L2.wipe σ vs) (upd H1 D (.lst [])) (ρ1.wipe vs) := by
      refine EnvR.wipe (σ' := σ) ?_ rfl rfl lo
      refine (R1.grow gD).holdOn upd_same nl fun i d q z => ?_
      obtain ⟨a, q1, q2, _⟩ := R1.ow i d q
      rw [z] at q1
      cases q1
      obtain ⟨w, q3⟩ := q2.there
      rw [hD] at q3; cases q3
    refine ⟨fun i m H => m = ds.length - i ∧ i ≤ ds.length ∧ ∃ (xs : List V) (acc rest : List Ft.D) (ρt : Rho), H D = some (.lst xs) ∧ Reps C.G H xs acc ∧ acc.length ≤ 1000 * i ∧ Ext H1 H ∧ EnvR (C.hold D (.lst xs)) (L2.wipe σ vs) H ρt ∧
      lcOut g tt it1 g1 tt1 f vs vs1 (ds.drop i) ρt = .ok (rest, ρ2) ∧ r = acc ++ rest, ⟨ds.length, by simp, Nat.zero_le _, [], [], r, ρ1.wipe vs, upd_same, .nil, Nat.zero_le _, gD.ext, start, by simpa using e2, rfl⟩, ?_⟩
    rintro i m H2 ⟨rfl, hi, xs, acc, rest, ρt, hx, ra, hal, x2, R2, el, er⟩
    by_cases hlt : i < ds.length
    · have ed : ds.drop i = ds[i] :: ds.drop (i + 1) := by rw [List.drop_eq_getElem_cons hlt]
      rw [ed] at el
      obtain ⟨ρ3, e3, eb⟩ := Res.bind_ok el
      obtain ⟨⟨b, ρ4⟩, e4, ec⟩ := Res.bind_ok eb
      obtain ⟨go, yl⟩ := (r1 H2 x2 i).1 _ (List.getElem?_eq_getElem hlt)
      refine .inr ⟨go, fun H => ∃ (xs : List V) (acc rest : List Ft.D) (ρt : Rho), H D = some (.lst xs) ∧ Reps C.G H xs acc ∧ acc.length ≤ 1000 * (i + 1) ∧ Ext H1 H ∧ EnvR (C.hold D (.lst xs)) (L2.wipe σ vs) H ρt ∧
        lcOut g tt it1 g1 tt1 f vs vs1 (ds.drop (i + 1)) ρt = .ok (rest, ρ2) ∧ r = acc ++ rest, fun H' z => ⟨_, by omega, rfl, hlt, z⟩, fun x H3 y => ?_⟩
      obtain ⟨gr, rp⟩ := yl x H3 y
      refine ⟨upd C.H0 D (.lst xs), ds[i], ρt, ρ3, R2.grow gr, rp, Res.of_ok e3, fun σ4 H4 x4 R4 l4 s4 => ?_⟩
      have l4 : σ4.length = σ.length := by rw [l4, wipe_length]
      have w4 : L2.wipe σ4 vs = L2.wipe σ vs := wipe_same l4 s4
      have xx4 : Ext H1 H4 := (x2.trans gr.ext).trans x4
      refine ⟨w4, upd C.H0 D (.lst xs), ρ3, b, ρ4, R4, e4, fun H5 x5 R5 => ?_⟩
      have xx5 := xx4.trans x5
      have ra5 := ra.ext ((gr.ext.trans x4).trans x5)
      cases b with
      | false =>
        dsimp only
        rw [if_neg Bool.false_ne_true]
        have ec : lcOut g tt it1 g1 tt1 f vs vs1 (ds.drop (i + 1)) (ρ4.wipe vs) = .ok (rest, ρ2) := ec
        exact ⟨xs, acc, rest, ρ4.wipe vs, R5.held nl, ra5, by omega, xx5, R5.wipe w4 l4 lo, ec, er⟩
      | true =>
        dsimp only
        rw [if_pos rfl]
        dsimp only at ec
        rw [if_pos rfl] at ec
        obtain ⟨⟨es, ρ5⟩, e5, ed⟩ := Res.bind_ok ec
        dsimp only at ed
        split at ed
        · rename_i hes
          obtain ⟨⟨mid, ρ6⟩, e6, ee⟩ := Res.bind_ok ed
          obtain ⟨⟨rest', ρ7⟩, e7, ef⟩ := Res.bind_ok ee
          cases Res.pure_ok ef
          refine ⟨upd C.H0 D (.lst xs), ρ4, es, ρ5, R5, e5, fun J1 H6 x6 R6 r6 => ?_⟩
          have xx6 := xx5.trans x6
          have hD6 := R6.held nl
          refine ⟨fun j k H => k = es.length - j ∧ j ≤ es.length ∧ ∃ (xs : List V) (acc1 mid1 : List Ft.D) (ρt : Rho), H D = some (.lst xs) ∧ Reps C.G H xs acc1 ∧ acc1.length ≤ 1000 * i + j ∧ Ext H6 H ∧ EnvR (C.hold D (.lst xs)) (L2.wipe σ4 vs1) H ρt ∧
            lcLoop g1 tt1 f vs1 (es.drop j) ρt = .ok (mid1, ρ6) ∧ acc ++ mid = acc1 ++ mid1, ⟨es.length, by simp, Nat.zero_le _, xs, acc, mid, ρ5.wipe vs1, hD6, ra5.ext x6, by omega, Ext.refl, R6.wipe rfl rfl lo1, by simpa using e6, rfl⟩, ?_⟩
          rintro j m H7 ⟨rfl, hj, ys, acc1, mid1, ρu, hy, ra1, hal1, x7, R7, em, emm⟩
          by_cases hlt1 : j < es.length
          · have ed1 : es.drop j = es[j] :: es.drop (j + 1) := by rw [List.drop_eq_getElem_cons hlt1]
            rw [ed1] at em
            obtain ⟨ρ8, e8, eg⟩ := Res.bind_ok em
            obtain ⟨⟨b1, ρ9⟩, e9, eh⟩ := Res.bind_ok eg
            obtain ⟨go1, yl1⟩ := (r6 H7 x7 j).1 _ (List.getElem?_eq_getElem hlt1)
            refine .inr ⟨go1, fun H => ∃ (xs : List V) (acc1 mid1 : List Ft.D) (ρt : Rho), H D = some (.lst xs) ∧ Reps C.G H xs acc1 ∧ acc1.length ≤ 1000 * i + (j + 1) ∧ Ext H6 H ∧ EnvR (C.hold D (.lst xs)) (L2.wipe σ4 vs1) H ρt ∧
              lcLoop g1 tt1 f vs1 (es.drop (j + 1)) ρt = .ok (mid1, ρ6) ∧ acc ++ mid = acc1 ++ mid1, fun H' z => ⟨_, by omega, rfl, hlt1, z⟩, fun z H8 yy => ?_⟩
            obtain ⟨gr1, rp1⟩ := yl1 z H8 yy
            refine ⟨upd C.H0 D (.lst ys), es[j], ρu, ρ8, R7.grow gr1, rp1, Res.of_ok e8, fun σ9 H9 x9 R9 l9 s9 => ?_⟩
            have l9 : σ9.length = σ4.length := by rw [l9, wipe_length]
            have w9 : L2.wipe σ9 vs1 = L2.wipe σ4 vs1 := wipe_same l9 s9
            have xx9 : Ext H6 H9 := (x7.trans gr1.ext).trans x9
            refine ⟨w9, upd C.H0 D (.lst ys), ρ8, b1, ρ9, R9, e9, fun H10 x10 R10 => ?_⟩
            have xx10 := xx9.trans x10
            have ra10 := ra1.ext ((gr1.ext.trans x9).trans x10)
            cases b1 with
            | false =>
              dsimp only
              rw [if_neg Bool.false_ne_true]
              have eh : lcLoop g1 tt1 f vs1 (es.drop (j + 1)) (ρ9.wipe vs1) = .ok (mid1, ρ6) := eh
              exact ⟨ys, acc1, mid1, ρ9.wipe vs1, R10.held nl, ra10, by omega, xx10, R10.wipe w9 l9 lo1, eh, emm⟩
            | true =>
              dsimp only
              rw [if_pos rfl]
              dsimp only at eh
              rw [if_pos rfl] at eh
              obtain ⟨⟨w, ρa⟩, e10, ei⟩ := Res.bind_ok eh
              obtain ⟨⟨mid2, ρb⟩, e11, ej⟩ := Res.bind_ok ei
              cases Res.pure_ok ej
              refine ⟨upd C.H0 D (.lst ys), ρ9, .val w, ρa, R10, given_ok e10, fun v H11 x11 R11 r11 => ?_⟩
              have hD11 := R11.held nl
              have la := ra1.length
              have xp := ext_put (ys := ys ++ [v]) hD11
              refine ⟨ys, hD11, by rw [sizeLine_eq]; omega, ys ++ [v], acc1 ++ [w], mid2, ρa.wipe vs1, upd_same, ?_, by simp; omega, (xx10.trans x11).trans xp, (R11.rehold nl xp).wipe w9 l9 lo1, e11, by rw [emm]; simp⟩
              exact ((ra10.ext x11).append (.cons r11 .nil)).ext xp
          · have e : es.length = j := by omega
            rw [List.drop_eq_nil_of_le (by omega)] at em
            cases em
            refine .inl ⟨(r6 H7 x7 j).2 e, ?_⟩
            rw [List.append_nil] at emm
            refine ⟨ys, acc1, rest', _, hy, ra1, by omega, xx6.trans x7, R7.wipe (wipe_sub hs w4 l4) (by rw [wipe_length, l4]) lo, e7, ?_⟩
            rw [er, ← emm, List.append_assoc]
        · cases ed
    · have e : ds.length = i := by omega
      rw [List.drop_eq_nil_of_le (by omega)] at el
      cases el
      refine .inl ⟨(r1 H2 x2 i).2 e, ?_⟩
      rw [List.append_nil] at er
      subst er
      have Re := R2.holdOff h0
      refine k _ H2 (x1.trans x2) (R1.unwipe hid x2 Re) ⟨D, rfl, .lst hx ra, h0, fun j d q z => ?_⟩
      have hl : ρ2.length = ρ1.length := by rw [Re.len, R1.len, wipe_length]
      by_cases m : j ∈ vs
      · unfold Rho.own at q
        rw [unwipe_in hl m] at q
        rcases idle_at hid m with e | ⟨d', e⟩
        · rw [e] at q; cases q
        · rw [e] at q; cases q
      · unfold Rho.own at q
        rw [unwipe_out m] at q
        rw [← wipe_out (σ := σ) m] at z
        exact R2.holdApart nl j d q z
  · cases ea
variable {elt tg iter tg1 iter1 : Expr} {ifs ifs1 : List Expr} {scope : Scope} {own : List (Str × Nat)} {pos : Pos}
theorem pe_evLc2 (hc : X.calm = true) (hN : X.N.Nodup) (hi : PI X tg iter (iIv C it)) (ok : BlkOk X.N X.env.scope scope own) (hv : ∀ i ∈ vs1, i ∈ own.map (·.2))
    (hg : ∀ (s : Shared) (H : Hp) (A : Addr) (cl : List (Str × Addr)) (fp : List Addr) (H0 : Hp), PG (X.blk s H scope (compEnvC scope cl A X.env) fp) tg (tGt (C.with H0) (own.map (·.2)) g))
    (ht : ∀ (s : Shared) (H : Hp) (A : Addr) (cl : List (Str × Addr)) (fp : List Addr) (H0 : Hp), PTs (X.blk s H scope (compEnvC scope cl A X.env) fp) ifs (tBv (C.with H0) tt))
    (hi1 : ∀ (s : Shared) (H : Hp) (A : Addr) (cl : List (Str × Addr)) (fp : List Addr) (H0 : Hp), PI (X.blk s H scope (compEnvC scope cl A X.env) fp) tg1 iter1 (iIv (C.with H0) it1))
    (hg1 : ∀ (s : Shared) (H : Hp) (A : Addr) (cl : List (Str × Addr)) (fp : List Addr) (H0 : Hp), PG (X.blk s H scope (compEnvC scope cl A X.env) fp) tg1 (tGt (C.with H0) vs1 g1))
    (ht1 : ∀ (s : Shared) (H : Hp) (A : Addr) (cl : List (Str × Addr)) (fp : List Addr) (H0 : Hp), PTs (X.blk s H scope (compEnvC scope cl A X.env) fp) ifs1 (tBv (C.with H0) tt1))
    (he : ∀ (s : Shared) (H : Hp) (A : Addr) (cl : List (Str × Addr)) (fp : List Addr) (H0 : Hp), PE (X.blk s H scope (compEnvC scope cl A X.env) fp) elt (tEv (C.with H0) f)) (hs : ∀ x, foldedSetIterable iter X.env x = pure x := by intro _; rfl) (hs1 : ∀ env x, foldedSetIterable iter1 env x = pure x := by intro _ _; rfl) :
    PE X (.ListComp elt [⟨tg, iter, ifs, 0⟩, ⟨tg1, iter1, ifs1, 0⟩] scope pos) (tEv C (evLc2 it g tt it1 g1 tt1 f (own.map (·.2)) vs1)) :=
  pe_imp (pe_lc2 hc hN hi ok hv (fun s H A cl fp => pg_u (hg s H A cl fp)) (fun s H A cl fp => pts_u (ht s H A cl fp)) (fun s H A cl fp => pi_u (hi1 s H A cl fp)) (fun s H A cl fp => pg_u (hg1 s H A cl fp)) (fun s H A cl fp => pts_u (ht1 s H A cl fp)) (fun s H A cl fp => pe_u fun H0 => pe_give (he s H A cl fp H0)) hs hs1) fun _ _ _ h => lc2_imp hv h
end
end Ft
set_option Elab.async false
set_option linter.all false
set_option maxRecDepth 100000
set_option maxHeartbeats 2000000
/-! FtM: defs: what a def promises, and its calls. -/
namespace Ft
open PySem PySem.Spec PySem.Calls PyProof.Rows L2

/-- a def over plain data: the arguments in; the answer and what the lent ones hold behind it -/
abbrev FnV := List D → Res (Hd × List D)
/-- ms: which parameters are lent (and may be changed) -/
inductive ArgsR (G : Pg) (H : Hp) : List Bool → List V → List D → List Addr → Prop
  | nil : ArgsR G H [] [] [] []
  | fr {v : V} {d : D} {ms : List Bool} {vs : List V} {ds : List D} {as : List Addr} : Rep G H v d → ArgsR G H ms vs ds as → ArgsR G H (false :: ms) (v :: vs) (d :: ds) as
  | ln {a : Addr} {d : D} {ms : List Bool} {vs : List V} {ds : List D} {as : List Addr} : OwnR G H a d → a ∉ as → ArgsR G H ms vs ds as → ArgsR G H (true :: ms) (.ref a :: vs) (d :: ds) (a :: as)
inductive OwnRs (G : Pg) (H : Hp) : List Addr → List D → Prop
  | nil : OwnRs G H [] []
  | cons {a : Addr} {d : D} {as : List Addr} {ds : List D} : OwnR G H a d → OwnRs G H as ds → OwnRs G H (a :: as) (d :: ds)
def spF (G : Pg) (ms : List Bool) (fn : FnV) : Sp := fun vs H Q _ => ∃ ds as r ls, ArgsR G H ms vs ds as ∧ fn ds = .ok (r, ls) ∧
  ∀ v H', Ext H H' → (∀ b u, H b = some u → b ∉ as → H' b = some u) → OwnRs G H' as ls → NR G H H' v r → Q v H'

/-! ### a def's body -/
def initR : List Bool → List D → Rho
  | false :: ms, d :: ds => .sh d :: initR ms ds
  | true :: ms, d :: ds => .ln d :: initR ms ds
  | _, _ => []
def lentOut (ρ : Rho) : Nat → List Bool → Option (List D)
  | _, [] => some []
  | k, false :: ms => lentOut ρ (k + 1) ms
  | k, true :: ms => match Rho.own ρ k, lentOut ρ (k + 1) ms with
    | some d, some ds => some (d :: ds)
    | _, _ => none
def outHd (ρ : Rho) : Out → Option Hd
  | .next => some (.val .non)
  | .ret (.val d) => some (.val d)
  | .ret (.tmp d) => some (.tmp d)
  | .ret (.slot i) => match ρ[i]? with
    | some (.ow d) => some (.tmp d)
    | _ => none
  | _ => none
/-- n: how many names stand behind the parameters -/
def fnOf (n : Nat) (ms : List Bool) (body : SV) : FnV := fun ds => do
  let (o, ρ) ← body (initR ms ds ++ List.replicate n .no)
  let r ← Res.of (outHd ρ o)
  let ls ← Res.of (lentOut ρ 0 ms)
  pure (r, ls)
def lentsAt : Nat → List Bool → List Addr → List (Nat × Addr)
  | k, false :: ms, as => lentsAt (k + 1) ms as
  | k, true :: ms, a :: as => (k, a) :: lentsAt (k + 1) ms as
  | _, _, _ => []

section
variable {G : Pg} {H H' : Hp} {ms : List Bool} {vs : List V} {ds : List D} {as : List Addr}
theorem ArgsR.lens (r : ArgsR G H ms vs ds as) : vs.length = ms.length ∧ ds.length = ms.length ∧ (initR ms ds).length = ms.length := by
  induction r with
  | nil => exact ⟨rfl, rfl, rfl⟩
  | fr _ _ ih => obtain ⟨a, b, c⟩ := ih; exact ⟨by simp [a], by simp [b], by simp [initR, c]⟩
  | ln _ _ _ ih => obtain ⟨a, b, c⟩ := ih; exact ⟨by simp [a], by simp [b], by simp [initR, c]⟩
theorem ArgsR.sh (r : ArgsR G H ms vs ds as) : ∀ {i : Nat} {d : D}, (initR ms ds)[i]? = some (.sh d) → ∃ v, vs[i]? = some v ∧ Rep G H v d := by
  induction r with
  | nil => intro i d e; simp [initR] at e
  | fr q _ ih =>
    intro i d e
    cases i with
    | zero => simp [initR] at e; subst e; exact ⟨_, rfl, q⟩
    | succ i => simpa using ih (by simpa [initR] using e)
  | ln q _ _ ih =>
    intro i d e
    cases i with
    | zero => simp [initR] at e
    | succ i => simpa using ih (by simpa [initR] using e)
theorem ArgsR.noow (r : ArgsR G H ms vs ds as) : ∀ {i : Nat} {d : D}, (initR ms ds)[i]? ≠ some (.ow d) := by
  induction r with
  | nil => intro i d e; simp [initR] at e
  | fr q _ ih =>
    intro i d e
    cases i with
    | zero => simp [initR] at e
    | succ i => exact ih (by simpa [initR] using e)
  | ln q _ _ ih =>
    intro i d e
    cases i with
    | zero => simp [initR] at e
    | succ i => exact ih (by simpa [initR] using e)
theorem ArgsR.lnAt (r : ArgsR G H ms vs ds as) : ∀ {i k : Nat} {d : D}, (initR ms ds)[i]? = some (.ln d) → ∃ a, vs[i]? = some (.ref a) ∧ OwnR G H a d ∧ (i + k, a) ∈ lentsAt k ms as ∧ a ∈ as := by
  induction r with
  | nil => intro i k d e; simp [initR] at e
  | fr q _ ih =>
    intro i k d e
    cases i with
    | zero => simp [initR] at e
    | succ i =>
      obtain ⟨a, h1, h2, h3, h4⟩ := ih (k := k + 1) (by simpa [initR] using e)
      exact ⟨a, by simpa using h1, h2, by simpa [lentsAt, Nat.add_assoc, Nat.add_comm 1 k] using h3, h4⟩
  | ln q n _ ih =>
    intro i k d e
    cases i with
    | zero => simp [initR] at e; subst e; exact ⟨_, rfl, q, by simp [lentsAt], by simp⟩
    | succ i =>
      obtain ⟨a, h1, h2, h3, h4⟩ := ih (k := k + 1) (by simpa [initR] using e)
      exact ⟨a, by simpa using h1, h2, by rw [lentsAt, show i + 1 + k = i + (k + 1) by omega]; exact List.mem_cons_of_mem _ h3, by simp [h4]⟩
theorem ArgsR.mem (r : ArgsR G H ms vs ds as) : ∀ {j k : Nat} {a : Addr}, (j, a) ∈ lentsAt k ms as → ∃ i d, j = i + k ∧ vs[i]? = some (.ref a) ∧ (initR ms ds)[i]? = some (.ln d) ∧ a ∈ as := by
  induction r with
  | nil => intro j k a m; simp [lentsAt] at m
  | fr q _ ih =>
    intro j k a m
    obtain ⟨i, d, h1, h2, h3, h4⟩ := ih (k := k + 1) (by simpa [lentsAt] using m)
    exact ⟨i + 1, d, by omega, by simpa using h2, by simpa [initR] using h3, h4⟩
  | @ln a0 d0 ms vs ds as q n _ ih =>
    intro j k a m
    simp only [lentsAt, List.mem_cons, Prod.mk.injEq] at m
    rcases m with ⟨rfl, rfl⟩ | m
    · exact ⟨0, d0, by omega, rfl, rfl, by simp⟩
    · obtain ⟨i, d, h1, h2, h3, h4⟩ := ih (k := k + 1) m
      exact ⟨i + 1, d, by omega, by simpa using h2, by simpa [initR] using h3, by simp [h4]⟩
theorem ArgsR.apart (r : ArgsR G H ms vs ds as) : ∀ {i j : Nat} {d e : D} {a : Addr}, (initR ms ds)[i]? = some (.ln d) → (initR ms ds)[j]? = some (.ln e) → vs[i]? = some (.ref a) → vs[j]? = some (.ref a) → i = j := by
  induction r with
  | nil => intro i j d e a h; simp [initR] at h
  | fr q _ ih =>
    intro i j d e a h1 h2 h3 h4
    cases i with
    | zero => simp [initR] at h1
    | succ i =>
      cases j with
      | zero => simp [initR] at h2
      | succ j => 
        have z := ih (i := i) (j := j) (d := d) (e := e) (a := a) (by simpa [initR] using h1) (by simpa [initR] using h2) (by simpa using h3) (by simpa using h4)
        omega
  | @ln a0 d0 ms vs ds as q n r ih =>
    intro i j d e a h1 h2 h3 h4
    cases i with
    | zero =>
      cases j with
      | zero => rfl
      | succ j =>
        simp at h3
        subst h3
        obtain ⟨b, z1, _, _, z2⟩ := r.lnAt (k := 0) (i := j) (d := e) (by simpa [initR] using h2)
        have h4 : vs[j]? = some (.ref a0) := by simpa using h4
        rw [h4] at z1
        cases z1
        exact absurd z2 n
    | succ i =>
      cases j with
      | zero =>
        simp at h4
        subst h4
        obtain ⟨b, z1, _, _, z2⟩ := r.lnAt (k := 0) (i := i) (d := d) (by simpa [initR] using h1)
        have h3 : vs[i]? = some (.ref a0) := by simpa using h3
        rw [h3] at z1
        cases z1
        exact absurd z2 n
      | succ j => 
        have z := ih (i := i) (j := j) (d := d) (e := e) (a := a) (by simpa [initR] using h1) (by simpa [initR] using h2) (by simpa using h3) (by simpa using h4)
        omega
theorem ArgsR.out (r : ArgsR G H ms vs ds as) : ∀ {k : Nat} {ρ : Rho} {ls : List D}, lentOut ρ k ms = some ls → (∀ i a, (i, a) ∈ lentsAt k ms as → ∃ d, Rho.own ρ i = some d ∧ OwnR G H' a d) → OwnRs G H' as ls := by
  induction r with
  | nil => intro k ρ ls e _; simp [lentOut] at e; subst e; exact .nil
  | fr q _ ih =>
    intro k ρ ls e h
    exact ih (k := k + 1) (by simpa [lentOut] using e) fun i a m => h i a (by simpa [lentsAt] using m)
  | @ln a0 d0 ms vs ds as q n _ ih =>
    intro k ρ ls e h
    simp only [lentOut] at e
    obtain ⟨d, h1, h2⟩ := h k a0 (by simp [lentsAt])
    rw [h1] at e
    split at e
    · rename_i d' ds' z1 z2
      cases z1
      cases e
      exact .cons h2 (ih (k := k + 1) z2 fun i a m => h i a (by simp [lentsAt, m]))
    · cases e
/-- the slots at a def's entry -/
theorem env_start {N : List Str} (r : ArgsR G H ms vs ds as) (n : Nat) (hN : N.length = ms.length + n) : EnvR ⟨G, H, lentsAt 0 ms as⟩ (L2.start N vs) H (initR ms ds ++ List.replicate n .no) := by
  obtain ⟨l1, l2, l3⟩ := r.lens
  have st : ∀ {i : Nat} {v : V}, vs[i]? = some v → (L2.start N vs)[i]? = some (some v) := fun {i v} e => by
    unfold L2.start
    rw [List.getElem?_append_left (by simpa using (List.getElem?_eq_some_iff.mp e).1), List.getElem?_map, e]
    rfl
  have lo : ∀ {i : Nat} {s : Slot}, (initR ms ds ++ List.replicate n Slot.no)[i]? = some s → s ≠ .no → (initR ms ds)[i]? = some s := fun {i s} e ne => by
    by_cases hi : i < (initR ms ds).length
    · rw [List.getElem?_append_left hi] at e; exact e
    · rw [List.getElem?_append_right (by omega), List.getElem?_replicate] at e
      split at e
      · cases e; exact absurd rfl ne
      · cases e
  have hi : ∀ {i : Nat} {s : Slot}, (initR ms ds)[i]? = some s → (initR ms ds ++ List.replicate n Slot.no)[i]? = some s := fun {i s} e => by
    rw [List.getElem?_append_left (List.getElem?_eq_some_iff.mp e).1]; exact e
  have ow : ∀ {i : Nat} {d : D}, Rho.own (initR ms ds ++ List.replicate n Slot.no) i = some d → (initR ms ds)[i]? = some (.ln d) := fun {i d} e => by
    rcases own_cases e with q | q
    · exact absurd (lo q (by intro z; cases z)) r.noow
    · exact lo q (by intro z; cases z)
  have vat : ∀ {i : Nat} {w : V}, (L2.start N vs)[i]? = some (some w) → vs[i]? = some w := fun {i w} e => by
    unfold L2.start at e
    by_cases hi : i < vs.length
    · rw [List.getElem?_append_left (by simpa using hi), List.getElem?_map] at e
      cases q : vs[i]? with
      | none => rw [q] at e; cases e
      | some x => rw [q] at e; cases e; rfl
    · rw [List.getElem?_append_right (by simpa using hi), List.getElem?_replicate] at e
      split at e <;> cases e
  refine ⟨fun i d e => ?_, fun i d e => ?_, fun i a m => ?_, fun i j d e a h1 h2 h3 h4 => ?_, fun a u e _ => e, ?_⟩
  · obtain ⟨v, q1, q2⟩ := r.sh (lo e (by intro z; cases z))
    exact ⟨v, st q1, q2⟩
  · obtain ⟨a, q1, q2, q3, _⟩ := r.lnAt (k := 0) (ow e)
    exact ⟨a, st q1, q2, .inr q3⟩
  · obtain ⟨j, d, rfl, q1, q2, _⟩ := r.mem m
    exact ⟨st q1, d, hi q2⟩
  · exact r.apart (ow h1) (ow h2) (vat h3) (vat h4)
  · unfold L2.start
    simp only [List.length_append, List.length_replicate, List.length_map]
    omega
/-- a body's promise, from its reading -/
theorem body_ok {N : List Str} {n : Nat} {body : SV} {Q : VK} (r : ArgsR G H ms vs ds as) (hN : N.length = ms.length + n) {rr : Hd} {ls : List D} (ev : fnOf n ms body ds = .ok (rr, ls))
    (k : ∀ v H', Ext H H' → (∀ b u, H b = some u → b ∉ as → H' b = some u) → OwnRs G H' as ls → NR G H H' v rr → Q v H') :
    tSv ⟨G, H, lentsAt 0 ms as⟩ body { nx := fun _ H' => Q .non H', rt := Q } (L2.start N vs) H := by
  obtain ⟨⟨o, ρ'⟩, e1, ea⟩ := Res.bind_ok ev
  obtain ⟨r', e2, eb⟩ := Res.bind_ok ea
  obtain ⟨ls', e3, ec⟩ := Res.bind_ok eb
  cases Res.pure_ok ec
  refine ⟨_, o, ρ', env_start r n hN, e1, fun σ' H' x R' => ?_⟩
  have fr : ∀ b u, H b = some u → b ∉ as → H' b = some u := fun b u e nb => R'.frame b u e fun ⟨i, m⟩ => by
    obtain ⟨_, _, _, _, _, z⟩ := r.mem m
    exact nb z
  have ol : OwnRs G H' as ls := r.out (Res.of_ok e3) fun i a m => by
    obtain ⟨d, q1, q2⟩ := R'.lentAt m
    exact ⟨d, own_of_ln q1, q2⟩
  have e2 := Res.of_ok e2
  cases o with
  | next => cases e2; exact k .non H' x fr ol .non
  | brk => cases e2
  | cont => cases e2
  | ret h =>
    intro v hv
    cases h with
    | val d => cases e2; exact k v H' x fr ol hv
    | tmp d =>
      cases e2
      obtain ⟨a, rfl, o, z, _⟩ := hv
      exact k _ H' x fr ol ⟨a, rfl, o, z⟩
    | slot i =>
      simp only [outHd] at e2
      split at e2
      · rename_i d q
        cases e2
        obtain ⟨a, q1, q2, q3⟩ := R'.ow i d (own_of_ow q)
        have hv : σ'[i]? = some (some v) := hv
        rw [hv] at q1
        cases q1
        refine k _ H' x fr ol ⟨a, rfl, q2, q3.resolve_right fun m => ?_⟩
        obtain ⟨_, d', z⟩ := R'.ln i a m
        rw [q] at z; cases z
      · cases e2
end

/-! ### a call of a def -/
inductive HA where
  | fr (d : D)
  | ln (i : Nat)
abbrev CV := Rho → Res (List HA × Rho)
inductive HAs (G : Pg) (σ : L2.St) (H : Hp) : List V → List HA → Prop
  | nil : HAs G σ H [] []
  | fr {v : V} {d : D} {vs : List V} {hs : List HA} : Rep G H v d → HAs G σ H vs hs → HAs G σ H (v :: vs) (.fr d :: hs)
  | ln {v : V} {i : Nat} {vs : List V} {hs : List HA} : σ[i]? = some (some v) → HAs G σ H vs hs → HAs G σ H (v :: vs) (.ln i :: hs)
def tCv (C : Ct) (f : CV) : TA := fun σ H Q => ∃ ρ hs ρ', EnvR C σ H ρ ∧ f ρ = .ok (hs, ρ') ∧ ∀ vs H', Ext H H' → EnvR C σ H' ρ' → HAs C.G σ H' vs hs → Q vs H'
def cvNil : CV := fun ρ => .ok ([], ρ)
def cvFr (f : EV) (g : CV) : CV := fun ρ => do
  let (d, ρ1) ← given f ρ
  let (hs, ρ2) ← g ρ1
  pure (.fr d :: hs, ρ2)
def cvLn (i : Nat) (g : CV) : CV := fun ρ => do
  let _ ← Res.of (Rho.own ρ i)
  let (hs, ρ2) ← g ρ
  pure (.ln i :: hs, ρ2)
def HA.lent : HA → Bool
  | .fr _ => false
  | .ln _ => true
def haData (ρ : Rho) : List HA → Option (List D)
  | [] => some []
  | .fr d :: hs => (haData ρ hs).map (d :: ·)
  | .ln i :: hs => match Rho.own ρ i, haData ρ hs with
    | some d, some ds => some (d :: ds)
    | _, _ => none
def haSlots : List HA → List Nat
  | [] => []
  | .fr _ :: hs => haSlots hs
  | .ln i :: hs => i :: haSlots hs
def puts (ρ : Rho) : List Nat → List D → Option Rho
  | [], [] => some ρ
  | i :: is, d :: ds => (ρ.put i d).bind fun ρ1 => puts ρ1 is ds
  | _, _ => none
/-- dds: the defaults that fill up -/
def evCall (ms : List Bool) (fn : FnV) (dds : List D) (g : CV) : EV := fun ρ => do
  let (hs, ρ1) ← g ρ
  let ds ← Res.of (haData ρ1 hs)
  if decide (hs.map HA.lent ++ dds.map (fun _ => false) = ms) && decide (haSlots hs).Nodup then
    let (r, ls) ← fn (ds ++ dds)
    let ρ2 ← Res.of (puts ρ1 (haSlots hs) ls)
    pure (r, ρ2)
  else .bad
section
variable {X : Cx} {C : Ct} {σ : L2.St} {H H' : Hp} {ρ ρ' : Rho} {e : Expr} {es : List Expr} {f : EV} {g : CV} {pos p : Pos}
theorem pa_cvNil : PA X [] (tCv C cvNil) := pa_imp pa_nil fun σ H Q q => by
  obtain ⟨ρ, hs, ρ', R, ev, k⟩ := q
  cases ev
  exact k [] H Ext.refl R .nil
theorem HAs.ext {vs : List V} {hs : List HA} (r : HAs C.G σ H vs hs) (x : Ext H H') : HAs C.G σ H' vs hs := by
  induction r with
  | nil => exact .nil
  | fr q _ ih => exact .fr (q.ext x) ih
  | ln q _ ih => exact .ln q ih
theorem pa_cvFr (ha : PE X e (tEv C f)) (hr : PA X es (tCv C g)) (hs : starEach (e :: es) X.env = (false, eval e X.env) :: starEach es X.env := by rfl) : PA X (e :: es) (tCv C (cvFr f g)) :=
  pa_imp (pa_cons (pe_give ha) hr hs) fun σ H Q q => by
    obtain ⟨ρ, hs, ρ', R, ev, k⟩ := q
    obtain ⟨⟨d, ρ1⟩, e1, ea⟩ := Res.bind_ok ev
    obtain ⟨⟨ds, ρ2⟩, e2, eb⟩ := Res.bind_ok ea
    cases Res.pure_ok eb
    exact ⟨ρ, .val d, ρ1, R, given_ok e1, fun x H1 x1 R1 r1 => ⟨ρ1, ds, _, R1, e2, fun vs H2 x2 R2 r2 => k (x :: vs) H2 (x1.trans x2) R2 (.fr (Rep.ext x2 r1) r2)⟩⟩
theorem pa_cvLn {i : Nat} {x : Str} (hN : X.N[i]? = some x) (hv : Vis X.env.scope x) (hd : (x == ("__debug__" : Str)) = false) (hcd : (x == ("__classdict__" : Str)) = false) (hr : PA X es (tCv C g))
    (hs : starEach (.Name x p :: es) X.env = (false, eval (.Name x p) X.env) :: starEach es X.env := by rfl) : PA X (.Name x p :: es) (tCv C (cvLn i g)) :=
  pa_imp (pa_cons (pe_var hN hv hd hcd) hr hs) fun σ H Q q => by
    obtain ⟨ρ, hs, ρ', R, ev, k⟩ := q
    obtain ⟨d, e1, ea⟩ := Res.bind_ok ev
    obtain ⟨⟨ds, ρ2⟩, e2, eb⟩ := Res.bind_ok ea
    cases Res.pure_ok eb
    obtain ⟨a, q1, _, _⟩ := R.ow i d (Res.of_ok e1)
    exact ⟨_, q1, ρ, ds, _, R, e2, fun vs H2 x2 R2 r2 => k _ H2 x2 R2 (.ln q1 r2)⟩
theorem HAs.args (R : EnvR C σ H ρ) {vs : List V} {hs : List HA} (r : HAs C.G σ H vs hs) : ∀ {ds : List D}, haData ρ hs = some ds → (haSlots hs).Nodup →
    ∃ as, ArgsR C.G H (hs.map HA.lent) vs ds as ∧ as.length = (haSlots hs).length ∧ (∀ (k i : Nat), (haSlots hs)[k]? = some i → ∃ (a : Addr) (d : D), as[k]? = some a ∧ σ[i]? = some (some (.ref a)) ∧ Rho.own ρ i = some d) := by
  induction r with
  | nil => intro ds e _; cases e; exact ⟨[], .nil, rfl, fun k i e => by simp [haSlots] at e⟩
  | @fr v d vs hs q _ ih =>
    intro ds e nd
    cases e1 : haData ρ hs with
    | none => simp [haData, e1] at e
    | some ds' =>
      simp [haData, e1] at e
      subst e
      obtain ⟨as, h1, h2, h3⟩ := ih e1 nd
      exact ⟨as, .fr q h1, h2, h3⟩
  | @ln v i vs hs q _ ih =>
    intro ds e nd
    cases e0 : Rho.own ρ i with
    | none => simp [haData, e0] at e
    | some d =>
      cases e1 : haData ρ hs with
      | none => simp [haData, e0, e1] at e
      | some ds' =>
        simp [haData, e0, e1] at e
        subst e
        simp only [haSlots, List.nodup_cons] at nd
        obtain ⟨as, h1, h2, h3⟩ := ih e1 nd.2
        obtain ⟨a, q1, q2, _⟩ := R.ow i d e0
        rw [q] at q1
        cases q1
        refine ⟨a :: as, .ln q2 (fun m => ?_) h1, by simp [haSlots, h2], fun k j ej => ?_⟩
        · obtain ⟨k, hk, ek⟩ := List.mem_iff_getElem.mp m
          have ek' : as[k]? = some a := by rw [List.getElem?_eq_getElem hk, ek]
          have hk2 : k < (haSlots hs).length := by omega
          obtain ⟨b, d2, z1, z2, z3⟩ := h3 k _ (List.getElem?_eq_getElem hk2)
          rw [ek'] at z1
          cases z1
          have := R.apart _ _ _ _ _ z3 e0 z2 q
          exact nd.1 (this ▸ List.getElem_mem hk2)
        · cases k with
          | zero => simp [haSlots] at ej; subst ej; exact ⟨a, d, rfl, q, e0⟩
          | succ k => simpa using h3 k j (by simpa [haSlots] using ej)
/-- what puts does with the slots -/
theorem puts_at : ∀ {is : List Nat} {ls : List D} {ρ ρ2 : Rho}, puts ρ is ls = some ρ2 → is.Nodup →
    ls.length = is.length ∧ ρ2.length = ρ.length ∧ (∀ j : Nat, j ∉ is → ρ2[j]? = ρ[j]?) ∧ ∀ (k i : Nat), is[k]? = some i → ∃ l : D, ls[k]? = some l ∧ ((∃ w, ρ[i]? = some (.ow w) ∧ ρ2[i]? = some (.ow l)) ∨ ∃ w, ρ[i]? = some (.ln w) ∧ ρ2[i]? = some (.ln l))
  | [], [], ρ, ρ2, e, _ => by cases e; exact ⟨rfl, rfl, fun _ _ => rfl, fun k i e => by simp at e⟩
  | [], _ :: _, _, _, e, _ => by cases e
  | _ :: _, [], _, _, e, _ => by cases e
  | i :: is, l :: ls, ρ, ρ2, e, nd => by
    obtain ⟨ρ1, e1, e2⟩ := Option.bind_eq_some_iff.mp e
    rw [List.nodup_cons] at nd
    obtain ⟨h0, h1, h2, h3⟩ := puts_at e2 nd.2
    have form : i < ρ.length ∧ ((∃ w, ρ[i]? = some (.ow w) ∧ ρ1 = ρ.set i (.ow l)) ∨ ∃ w, ρ[i]? = some (.ln w) ∧ ρ1 = ρ.set i (.ln l)) := by
      unfold Rho.put at e1
      split at e1
      · rename_i w q; cases e1; exact ⟨(List.getElem?_eq_some_iff.mp q).1, .inl ⟨w, q, rfl⟩⟩
      · rename_i w q; cases e1; exact ⟨(List.getElem?_eq_some_iff.mp q).1, .inr ⟨w, q, rfl⟩⟩
      · cases e1
    obtain ⟨il, form⟩ := form
    have oth : ∀ j, j ≠ i → ρ1[j]? = ρ[j]? := fun j hj => by
      rcases form with ⟨_, _, rfl⟩ | ⟨_, _, rfl⟩ <;> exact List.getElem?_set_ne (Ne.symm hj)
    refine ⟨by simp [h0], by rw [h1, put_len e1], fun j hj => ?_, fun k j ej => ?_⟩
    · simp only [List.mem_cons, not_or] at hj
      rw [h2 j hj.2, oth j hj.1]
    · cases k with
      | zero =>
        simp at ej
        subst ej
        refine ⟨l, rfl, ?_⟩
        rw [h2 i nd.1]
        rcases form with ⟨w, q, rfl⟩ | ⟨w, q, rfl⟩
        · exact .inl ⟨w, q, List.getElem?_set_self il⟩
        · exact .inr ⟨w, q, List.getElem?_set_self il⟩
      | succ k =>
        have ej : is[k]? = some j := by simpa using ej
        obtain ⟨l', q1, q2⟩ := h3 k j ej
        have ne : j ≠ i := fun z => nd.1 (z ▸ List.mem_of_getElem? ej)
        rw [oth j ne] at q2
        exact ⟨l', by simpa using q1, q2⟩
theorem OwnRs.at {G : Pg} {as : List Addr} {ls : List D} (o : OwnRs G H as ls) : ∀ {k : Nat} {a : Addr} {l : D}, as[k]? = some a → ls[k]? = some l → OwnR G H a l := by
  induction o with
  | nil => intro k a l e; simp at e
  | cons q _ ih =>
    intro k a l e1 e2
    cases k with
    | zero => simp at e1 e2; subst e1; subst e2; exact q
    | succ k => exact ih (by simpa using e1) (by simpa using e2)
/-- behind a call: the lent slots hold what they hold now -/
theorem EnvR.puts (R : EnvR C σ H ρ) (x : Ext H H') {is : List Nat} {as : List Addr} {ls : List D} {ρ2 : Rho} (nd : is.Nodup) (hl : as.length = is.length) (hs : ∀ (k i : Nat), is[k]? = some i → ∃ (a : Addr) (d : D), as[k]? = some a ∧ σ[i]? = some (some (.ref a)) ∧ Rho.own ρ i = some d)
    (k : ∀ b u, H b = some u → b ∉ as → H' b = some u) (o : OwnRs C.G H' as ls) (e : Ft.puts ρ is ls = some ρ2) : EnvR C σ H' ρ2 := by
  obtain ⟨l1, l2, out, ins⟩ := puts_at e nd
  have at_ : ∀ {j : Nat}, j ∈ is → ∃ k, is[k]? = some j := fun m => by
    obtain ⟨k, hk, ek⟩ := List.mem_iff_getElem.mp m
    exact ⟨k, by rw [List.getElem?_eq_getElem hk, ek]⟩
  have own1 : ∀ {j : Nat} {w : D}, Rho.own ρ2 j = some w → ∃ w', Rho.own ρ j = some w' := fun {j w} q => by
    by_cases m : j ∈ is
    · obtain ⟨k, ek⟩ := at_ m
      obtain ⟨_, d, _, _, z⟩ := hs k j ek
      exact ⟨d, z⟩
    · unfold Rho.own at q ⊢
      rw [out j m] at q
      exact ⟨w, q⟩
  -- an address among as is that of a slot among is
  have addr : ∀ {a : Addr}, a ∈ as → ∃ i d, i ∈ is ∧ σ[i]? = some (some (.ref a)) ∧ Rho.own ρ i = some d := fun {a} m => by
    obtain ⟨k, hk, ek⟩ := List.mem_iff_getElem.mp m
    have hk2 : k < is.length := by omega
    obtain ⟨b, d, z1, z2, z3⟩ := hs k _ (List.getElem?_eq_getElem hk2)
    rw [List.getElem?_eq_getElem hk, ek] at z1
    cases z1
    exact ⟨_, d, List.getElem_mem hk2, z2, z3⟩
  refine ⟨fun j w q => ?_, fun j w q => ?_, fun j b q => ?_, fun j l w1 w2 b q1 q2 s1 s2 => ?_, fun b u q l => ?_, by rw [l2]; exact R.len⟩
  · have : ρ[j]? = some (.sh w) := by
      by_cases m : j ∈ is
      · obtain ⟨k, ek⟩ := at_ m
        obtain ⟨l, _, z⟩ := ins k j ek
        rcases z with ⟨_, _, z⟩ | ⟨_, _, z⟩ <;> (rw [z] at q; cases q)
      · rw [← out j m]; exact q
    obtain ⟨v, q1, q2⟩ := R.sh j w this
    exact ⟨v, q1, q2.ext x⟩
  · by_cases m : j ∈ is
    · obtain ⟨k, ek⟩ := at_ m
      obtain ⟨l, el, z⟩ := ins k j ek
      obtain ⟨a, d, ea, ez, eo⟩ := hs k j ek
      have wl : w = l := by
        unfold Rho.own at q
        rcases z with ⟨_, _, z⟩ | ⟨_, _, z⟩ <;> (rw [z] at q; cases q; rfl)
      subst wl
      obtain ⟨a', q1, q2, q3⟩ := R.ow j d eo
      rw [ez] at q1
      cases q1
      exact ⟨a, ez, o.at ea el, q3⟩
    · unfold Rho.own at q
      rw [out j m] at q
      obtain ⟨a, q1, q2, q3⟩ := R.ow j w q
      refine ⟨a, q1, q2.keep x fun u z => k a u z fun ma => ?_, q3⟩
      obtain ⟨i, d, mi, z1, z2⟩ := addr ma
      exact m (R.apart j i w d a q z2 q1 z1 ▸ mi)
  · obtain ⟨q1, w, q2⟩ := R.ln j b q
    refine ⟨q1, ?_⟩
    by_cases m : j ∈ is
    · obtain ⟨k, ek⟩ := at_ m
      obtain ⟨l, _, z⟩ := ins k j ek
      rcases z with ⟨_, z, _⟩ | ⟨_, _, z⟩
      · rw [q2] at z; cases z
      · exact ⟨l, z⟩
    · exact ⟨w, by rw [out j m]; exact q2⟩
  · obtain ⟨w1', z1⟩ := own1 q1
    obtain ⟨w2', z2⟩ := own1 q2
    exact R.apart j l w1' w2' b z1 z2 s1 s2
  · refine k b u (R.frame b u q l) fun m => ?_
    obtain ⟨i, d, mi, z1, z2⟩ := addr m
    obtain ⟨a, q1, q2, q3⟩ := R.ow i d z2
    rw [z1] at q1
    cases q1
    rcases q3 with q3 | q3
    · rw [q3] at q; cases q
    · exact l ⟨i, q3⟩
theorem ArgsR.app {G : Pg} {ms : List Bool} {vs dvs : List V} {ds dds : List D} {as : List Addr} (r : ArgsR G H ms vs ds as) (d : Reps G H dvs dds) : ArgsR G H (ms ++ dds.map fun _ => false) (vs ++ dvs) (ds ++ dds) as := by
  induction r with
  | nil =>
    simp only [List.nil_append]
    have go : ∀ {dvs : List V} {dds : List D}, Reps G H dvs dds → ArgsR G H (dds.map fun _ => false) dvs dds [] := fun {dvs dds} d => by
      induction dvs generalizing dds with
      | nil => cases d; exact .nil
      | cons v vs ih => cases d with | cons q t => exact .fr q (ih t)
    exact go d
  | fr q _ ih => exact .fr q ih
  | ln q n _ ih => exact .ln q n ih
theorem call_imp {ms : List Bool} {fn : FnV} {dds : List D} {dvs : List V} {E : XK} {Q : VK} (hd : ∀ H, Reps C.G H dvs dds) (h : tEv C (evCall ms fn dds g) σ H Q) : tCall (spF C.G ms fn) dvs E (tCv C g) σ H Q := by
  obtain ⟨ρ, h, ρ', R, ev, k⟩ := h
  obtain ⟨⟨hs, ρ1⟩, e1, ea⟩ := Res.bind_ok ev
  obtain ⟨ds, e2, eb⟩ := Res.bind_ok ea
  dsimp only at eb
  split at eb
  · rename_i hc
    rw [Bool.and_eq_true, decide_eq_true_eq, decide_eq_true_eq] at hc
    obtain ⟨⟨r, ls⟩, e3, ec⟩ := Res.bind_ok eb
    obtain ⟨ρ2, e4, ed⟩ := Res.bind_ok ec
    cases Res.pure_ok ed
    refine ⟨ρ, hs, ρ1, R, e1, fun vs H1 x1 R1 r1 => ?_⟩
    obtain ⟨as, a1, a2, a3⟩ := r1.args R1 (Res.of_ok e2) hc.2
    refine ⟨ds ++ dds, as, r, ls, hc.1 ▸ a1.app (hd H1), e3, fun v H2 x2 fr o n => ?_⟩
    have R2 := R1.puts x2 hc.2 a2 a3 fr o (Res.of_ok e4)
    refine k v H2 (x1.trans x2) R2 ?_
    cases r with
    | val d => exact n
    | slot _ => exact n.elim
    | tmp d =>
      obtain ⟨a, rfl, o, z⟩ := n
      refine ⟨a, rfl, o, R1.fresh z, fun i w q y => ?_⟩
      obtain ⟨b, q1, q2, _⟩ := R2.ow i w q
      obtain ⟨l1, l2, out, ins⟩ := puts_at (Res.of_ok e4) hc.2
      -- the slot held something of its own before the call, at the same place
      have : ∃ w', Rho.own ρ1 i = some w' := by
        by_cases m : i ∈ haSlots hs
        · obtain ⟨j, hj, ej⟩ := List.mem_iff_getElem.mp m
          obtain ⟨_, d, _, _, z⟩ := a3 j i (by rw [List.getElem?_eq_getElem hj, ej])
          exact ⟨d, z⟩
        · unfold Rho.own at q ⊢
          rw [out i m] at q
          exact ⟨w, q⟩
      obtain ⟨w', q'⟩ := this
      obtain ⟨c, q3, q4, _⟩ := R1.ow i w' q'
      rw [y] at q3
      cases q3
      obtain ⟨u, q5⟩ := q4.there
      rw [z] at q5; cases q5
  · cases eb
variable {CX : CXT} {k : Nat} {fa : Addr} {fd : FuncData} {ps : List Str} {x : Str} {ms : List Bool} {fn : FnV} {dds : List D} {dvs : List V} {dus : List Value} {E : XK}
/-- f(e, ..), f a def -/
theorem pe_evCall (F : FnOk X.prog X.w X.K X.mg X.base CX k fa fd ps (spF C.G ms fn)) (hr : Room k X.A) (hg : Gl X x) (hm : X.mg x = some (.ref fa)) (hk : PySem.W.keepIn X.K (.ref fa) = true) (hb : Binds X.K fd ps dus) (hdv : Vals dvs dus) (hdr : ∀ H, Reps C.G H dvs dds) (hx : Passes CX X E)
    (ha : PA X (e :: es) (tCv C g)) (hdb : (x == ("__debug__" : Str)) = false := by decide) (he : starEach (e :: es) X.env = (false, eval e X.env) :: starEach es X.env := by rfl) (hpl : (backTo pos (starEach es X.env)).any (·.1) = false := by rfl) :
    PE X (.Call (.Name x p) (e :: es) [] pos) (tEv C (evCall ms fn dds g)) :=
  pe_imp (pe_call F hr hg hm hk hb hdv hx ha hdb he hpl) fun _ _ _ h => call_imp hdr h
theorem pe_evCall0 (F : FnOk X.prog X.w X.K X.mg X.base CX k fa fd ps (spF C.G ms fn)) (hr : Room k X.A) (hg : Gl X x) (hm : X.mg x = some (.ref fa)) (hk : PySem.W.keepIn X.K (.ref fa) = true) (hb : Binds X.K fd ps dus) (hdv : Vals dvs dus) (hdr : ∀ H, Reps C.G H dvs dds) (hx : Passes CX X E)
    (hdb : (x == ("__debug__" : Str)) = false := by decide) : PE X (.Call (.Name x p) [] [] pos) (tEv C (evCall ms fn dds cvNil)) :=
  pe_imp (pe_call0 F hr hg hm hk hb hdv hx hdb) fun σ H Q h => by
    have z := call_imp (dvs := dvs) (E := E) hdr h
    obtain ⟨ρ, hs, ρ', R, ev, k⟩ := z
    cases ev
    exact k [] H Ext.refl R .nil
end

/-! ### a def of the text -/
section
variable {P : Program} {w : World} {K : PySem.W.Frag} {mg : Str → Option Value} {base : Heap} {G : Pg}
theorem ok_def {x qual : Str} {st : Stmt} {f : Addr} {fd : FuncData} {N ps : List Str} {k n : Nat} {ms : List Bool} {body : SV} (F : Fun K x qual st f fd) (S : FnScope N ps (defScope st)) (hp : ms.length = ps.length) (hN : N.length = ms.length + n)
    (hb : ∀ (cdv : Value) (A : Around) (outer : List Env) (s : Shared) (H : Hp) (E : XK) (H0 : Hp) (M : List (Nat × Addr)), Room k (A.deeper (envOfC qual (defScope st) s.heap.objs.size f cdv)) →
      PSs (cxOf CX0 P w K mg base N qual (defScope st) f cdv A outer s H E).nox (defBody st) (tSv ⟨G, H0, M⟩ body)) :
    FnOk P w K mg base CX0 (k + 1) f fd ps (spF G ms (fnOf n ms body)) := by
  refine F.ok S (fun vs H Q E h => ?_) (fun cdv A outer s H vs Q E hr h => ?_)
  · obtain ⟨ds, as, r, ls, h, _⟩ := h
    rw [h.lens.1, hp]
  · obtain ⟨ds, as, r, ls, h, ev, q⟩ := h
    exact ⟨_, hb cdv A outer s H E H (lentsAt 0 ms as) hr, body_ok h hN ev q⟩
end
end Ft
set_option Elab.async false
set_option linter.all false
set_option maxRecDepth 100000
set_option maxHeartbeats 2000000
/-! FtN: two or three names at once, powers, names of the module, isinstance. -/
namespace Ft
open PySem PySem.Spec PySem.Calls PyProof.Rows L2

/-! ### a, b = x, y -/
section
variable {X : Cx} {C : Ct} {σ : L2.St} {H H' : Hp} {ρ ρ' : Rho} {a b c e : Expr} {f fa fb fc : EV} {pos p : Pos}
/-- a kept handle stands while something else runs -/
theorem keep_hold {h : Hd} {v : V} {Q : VK} {g : EV} (R : EnvR C σ H ρ) (ns : ∀ i, h ≠ .slot i) (r : HR C σ H ρ v h)
    (q : ∀ C' : Ct, C'.G = C.G → (∃ H0, C' = C.with H0) → EnvR C' σ H ρ → (∀ w H' h' ρ', Ext H H' → EnvR C' σ H' ρ' → (∀ i, h' ≠ .slot i) → HR C' σ H' ρ' w h' → EnvR C σ H' ρ' ∧ HR C σ H' ρ' v h ∧ HR C σ H' ρ' w h' ∧ (∀ d d', h = .tmp d → h' = .tmp d' → v ≠ w)) → tEv C' g σ H Q) :
    uEv C g σ H Q := by
  cases h with
  | slot i => exact absurd rfl (ns i)
  | val d =>
    refine ⟨C.H0, q C rfl ⟨C.H0, rfl⟩ R fun w H' h' ρ' x R' n' r' => ⟨R', Rep.ext x r, r', fun d d' z => by cases z⟩⟩
  | tmp d =>
    obtain ⟨a, rfl, o, z, n⟩ := r
    obtain ⟨u, hu⟩ := o.there
    have nl : ¬ C.lent a := fun ⟨i, m⟩ => by
      obtain ⟨s, d', q'⟩ := R.ln i a m
      exact n i d' (own_of_ln q') s
    refine ⟨upd C.H0 a u, q (C.hold a u) rfl ⟨_, rfl⟩ (R.holdOn hu nl n) fun w H' h' ρ' x R' n' r' => ?_⟩
    have R2 := R'.holdOff z
    have hu' := R'.held nl
    have ap := R'.holdApart nl
    refine ⟨R2, ⟨a, rfl, o.keep x fun u' e => by rw [hu] at e; cases e; exact hu', z, ap⟩, ?_, fun d1 d2 e1 e2 => ?_⟩
    · cases h' with
      | val _ => exact r'
      | slot i => exact absurd rfl (n' i)
      | tmp d2 =>
        obtain ⟨b, rfl, o2, z2, nn⟩ := r'
        have z2 : upd C.H0 a u b = none := z2
        by_cases e : b = a
        · subst e; rw [upd_same] at z2; cases z2
        · rw [upd_ne e] at z2; exact ⟨b, rfl, o2, z2, nn⟩
    · subst e2
      obtain ⟨b, rfl, o2, z2, nn⟩ := r'
      intro e
      cases e
      have z2 : upd C.H0 a u a = none := z2
      rw [upd_same] at z2; cases z2
theorem store_form {h : Hd} {i : Nat} {ρ2 : Rho} (e : ρ.store i h = some ρ2) : ∃ s, ρ2 = ρ.set i s ∧ i < ρ.length ∧ ((∃ d, s = .sh d ∧ h = .val d) ∨ ∃ d, s = .ow d ∧ h = .tmp d) := by
  unfold Rho.store at e
  split at e
  · split at e
    · cases e
    · rename_i q1 q2
      cases e
      exact ⟨_, rfl, (List.getElem?_eq_some_iff.mp q2).1, .inl ⟨_, rfl, rfl⟩⟩
    · cases e
  · split at e
    · cases e
    · rename_i q1 q2
      cases e
      exact ⟨_, rfl, (List.getElem?_eq_some_iff.mp q2).1, .inr ⟨_, rfl, rfl⟩⟩
    · cases e
  · cases e
/-- a second handle, behind the store of the first -/
theorem HR.stored {v w : V} {h h' : Hd} {i : Nat} {ρ2 : Rho} (R : EnvR C σ H ρ) (e : ρ.store i h = some ρ2) (hr : HR C σ H ρ v h) (hr' : HR C σ H ρ w h') (ns : ∀ j, h' ≠ .slot j) (ne : ∀ d d', h = .tmp d → h' = .tmp d' → v ≠ w) : HR C (σ.set i (some v)) H ρ2 w h' := by
  obtain ⟨s, rfl, il, kd⟩ := store_form e
  cases h' with
  | val d => exact hr'
  | slot j => exact absurd rfl (ns j)
  | tmp d' =>
    obtain ⟨b, rfl, o, z, n⟩ := hr'
    refine ⟨b, rfl, o, z, fun j x q y => ?_⟩
    by_cases hj : j = i
    · subst hj
      rw [List.getElem?_set_self (by rw [← R.len]; exact il)] at y
      cases y
      unfold Rho.own at q
      rw [List.getElem?_set_self il] at q
      rcases kd with ⟨d, rfl, _⟩ | ⟨d, rfl, rfl⟩
      · cases q
      · exact ne d d' rfl rfl rfl
    · rw [List.getElem?_set_ne (Ne.symm hj)] at y
      rcases own_set q with ⟨z1, _⟩ | ⟨_, z2⟩
      · exact absurd z1 hj
      · exact n j x z2 y
end
def svPar (i j : Nat) (fa fb : EV) : SV := fun ρ => do
  let (h1, ρ1) ← keep fa ρ
  let (h2, ρ2) ← keep fb ρ1
  let ρ3 ← Res.of (ρ2.store i h1)
  let ρ4 ← Res.of (ρ3.store j h2)
  pure (.next, ρ4)
def svPar3 (i j l : Nat) (fa fb fc : EV) : SV := fun ρ => do
  let (h1, ρ1) ← keep fa ρ
  let (h2, ρ2) ← keep fb ρ1
  let (h3, ρ3) ← keep fc ρ2
  let ρ4 ← Res.of (ρ3.store i h1)
  let ρ5 ← Res.of (ρ4.store j h2)
  let ρ6 ← Res.of (ρ5.store l h3)
  pure (.next, ρ6)
section
variable {X : Cx} {C : Ct} {σ : L2.St} {H H' : Hp} {ρ ρ' : Rho} {a b c e : Expr} {f fa fb fc : EV} {pos p : Pos}
theorem pe_kept (h : ∀ H0, PE X e (tEv (C.with H0) f)) : PE X e (uEv C (keep f)) := pe_u fun H0 => pe_keep (h H0)
theorem ns_keep {h : Hd} (e : keep f ρ = .ok (h, ρ')) : ∀ i, h ≠ .slot i := fun i z => keep_noslot (z ▸ e)
theorem ps_svPar {i j : Nat} {x y : Str} {px py pt : Pos} {kt k2 pt2} (hc : X.calm = true) (hN : X.N.Nodup) (hi : X.N[i]? = some x) (hj : X.N[j]? = some y) (hij : i ≠ j)
    (hx : X.env.scope.names.lookup x = some .local) (hy : X.env.scope.names.lookup y = some .local) (ha : PE X a (tEv C fa)) (hb : ∀ H0, PE X b (tEv (C.with H0) fb))
    (hw : swappedStores [.Tuple [.Name x px, .Name y py] kt pt] (.Tuple [a, b] k2 pt2) X.env = pure (some [x, y]))
    (hs : swapsWithSole [.Tuple [.Name x px, .Name y py] kt pt] (.Tuple [a, b] k2 pt2) pos.line X.env = pure false := by rfl)
    (s1 : starEach [a, b] X.env = (false, eval a X.env) :: starEach [b] X.env := by rfl) (s2 : starEach [b] X.env = (false, eval b X.env) :: starEach [] X.env := by rfl) :
    PS X (.Assign [.Tuple [.Name x px, .Name y py] kt pt] (.Tuple [a, b] k2 pt2) pos) (tSv C (svPar i j fa fb)) :=
  ps_imp (ps_par hc hN hi hj hij hx hy (pa_cons (pe_keep ha) (pa_cons (pe_kept hb) pa_nil s2) s1) hw hs) fun Dd σ H q => by
    obtain ⟨ρ, o, ρ', R, ev, k⟩ := q
    obtain ⟨⟨h1, ρ1⟩, e1, ea⟩ := Res.bind_ok ev
    obtain ⟨⟨h2, ρ2⟩, e2, eb⟩ := Res.bind_ok ea
    obtain ⟨ρ3, e3, ec⟩ := Res.bind_ok eb
    obtain ⟨ρ4, e4, ed⟩ := Res.bind_ok ec
    cases Res.pure_ok ed
    refine ⟨ρ, h1, ρ1, R, e1, fun v H1 x1 R1 r1 => keep_hold R1 (ns_keep e1) r1 fun C' _ _ R1' back => ⟨ρ1, h2, ρ2, R1', e2, fun w H2 x2 R2' r2' => ?_⟩⟩
    obtain ⟨R2, r1', r2, ne⟩ := back w H2 h2 ρ2 x2 R2' (ns_keep e2) r2'
    refine ⟨v, w, rfl, ?_⟩
    have R3 := R2.stored (Res.of_ok e3) r1'
    have r3 := HR.stored R2 (Res.of_ok e3) r1' r2 (ns_keep e2) ne
    exact k _ H2 (x1.trans x2) (R3.stored (Res.of_ok e4) r3)
theorem ps_svPar3 {i j l : Nat} {x y z : Str} {px py pz pt : Pos} {kt k2 pt2} (hc : X.calm = true) (hN : X.N.Nodup) (hi : X.N[i]? = some x) (hj : X.N[j]? = some y) (hl : X.N[l]? = some z) (hij : i ≠ j) (hil : i ≠ l) (hjl : j ≠ l)
    (hx : X.env.scope.names.lookup x = some .local) (hy : X.env.scope.names.lookup y = some .local) (hz : X.env.scope.names.lookup z = some .local) (ha : PE X a (tEv C fa)) (hb : ∀ H0, PE X b (tEv (C.with H0) fb)) (hcc : ∀ H0, PE X c (tEv (C.with H0) fc))
    (hw : swappedStores [.Tuple [.Name x px, .Name y py, .Name z pz] kt pt] (.Tuple [a, b, c] k2 pt2) X.env = pure (some [x, y, z]))
    (hs : swapsWithSole [.Tuple [.Name x px, .Name y py, .Name z pz] kt pt] (.Tuple [a, b, c] k2 pt2) pos.line X.env = pure false := by rfl)
    (s1 : starEach [a, b, c] X.env = (false, eval a X.env) :: starEach [b, c] X.env := by rfl) (s2 : starEach [b, c] X.env = (false, eval b X.env) :: starEach [c] X.env := by rfl) (s3 : starEach [c] X.env = (false, eval c X.env) :: starEach [] X.env := by rfl) :
    PS X (.Assign [.Tuple [.Name x px, .Name y py, .Name z pz] kt pt] (.Tuple [a, b, c] k2 pt2) pos) (tSv C (svPar3 i j l fa fb fc)) :=
  ps_imp (ps_par3 hc hN hi hj hl hij hil hjl hx hy hz (pa_cons (pe_keep ha) (pa_cons (pe_kept hb) (pa_cons (pe_kept hcc) pa_nil s3) s2) s1) hw hs) fun Dd σ H q => by
    obtain ⟨ρ, o, ρ', R, ev, k⟩ := q
    obtain ⟨⟨h1, ρ1⟩, e1, ea⟩ := Res.bind_ok ev
    obtain ⟨⟨h2, ρ2⟩, e2, eb⟩ := Res.bind_ok ea
    obtain ⟨⟨h3, ρ3⟩, e3, ec⟩ := Res.bind_ok eb
    obtain ⟨ρ4, e4, ed⟩ := Res.bind_ok ec
    obtain ⟨ρ5, e5, ee⟩ := Res.bind_ok ed
    obtain ⟨ρ6, e6, ef⟩ := Res.bind_ok ee
    cases Res.pure_ok ef
    refine ⟨ρ, h1, ρ1, R, e1, fun v H1 x1 R1 r1 => keep_hold R1 (ns_keep e1) r1 fun C' _ hC' R1' back => ⟨ρ1, h2, ρ2, R1', e2, fun w H2 x2 R2' r2' => ?_⟩⟩
    obtain ⟨R2, r1', r2, ne12⟩ := back w H2 h2 ρ2 x2 R2' (ns_keep e2) r2'
    obtain ⟨H0, rfl⟩ := hC'
    -- the second is held too
    have hold2 := keep_hold (g := keep fc) (Q := fun u H3 => ∃ u0 v0 w0, [v, w, u] = [u0, v0, w0] ∧ Dd.nx (((σ.set i (some u0)).set j (some v0)).set l (some w0)) H3) R2' (ns_keep e2) r2'
    obtain ⟨H00, q⟩ := hold2 fun C'' _ hC'' R2'' back2 => ⟨ρ2, h3, ρ3, R2'', e3, fun u H3 x3 R3'' r3'' => by
      obtain ⟨R3', r2'3, r3', ne23⟩ := back2 u H3 h3 ρ3 x3 R3'' (ns_keep e3) r3''
      obtain ⟨R3, r1'3, r3, ne13⟩ := back u H3 h3 ρ3 (x2.trans x3) R3' (ns_keep e3) r3'
      obtain ⟨_, _, r23, _⟩ := back w H3 h2 ρ3 (x2.trans x3) R3' (ns_keep e2) r2'3
      refine ⟨v, w, u, rfl, ?_⟩
      have S1 := R3.stored (Res.of_ok e4) r1'3
      have t2 := HR.stored R3 (Res.of_ok e4) r1'3 r23 (ns_keep e2) ne12
      have t3 := HR.stored R3 (Res.of_ok e4) r1'3 r3 (ns_keep e3) ne13
      have S2 := S1.stored (Res.of_ok e5) t2
      have t3' := HR.stored S1 (Res.of_ok e5) t2 t3 (ns_keep e3) ne23
      exact k _ H3 ((x1.trans x2).trans x3) (S2.stored (Res.of_ok e6) t3')⟩
    exact ⟨H00, q⟩

/-! ### powers -/
def dPow : Op2
  | .int i, .int j => if decide (0 ≤ j) && decide ((Builtin.Int.intBits i : Int) * j ≤ 134217728) then some (.val (.int (i ^ j.toNat))) else none
  | _, _ => none
theorem opd_pow {G : Pg} : OpR X (binaryOp .Pow) (rO2 G dPow) := by
  intro pins s σ H x y v u Q I rx ry h
  obtain ⟨d, e, h, t1, t2, ev, k⟩ := h
  cases d <;> cases e <;> simp only [dPow, reduceCtorEq] at ev
  split at ev
  · rename_i hc
    cases ev
    simp only [Bool.and_eq_true, decide_eq_true_eq] at hc
    obtain rfl := t1.inv_int
    obtain rfl := t2.inv_int
    obtain ⟨t, rfl⟩ := rx
    obtain ⟨t', rfl⟩ := ry
    exact PyProof.Rows.pow_int hc.1 (by simpa using hc.2) ⟨.int _, H, I.tok _, ⟨_, rfl⟩, k _ H Grow.refl (.int _)⟩
  · cases ev

/-! ### names of the module -/
theorem pe_evGlob {x : Str} {v : V} {u : Value} {d : D} (hg : Gl X x) (hm : X.mg x = some u) (r : RelV v u) (hr : ∀ H, Rep C.G H v d) (hd : (x == ("__debug__" : Str)) = false := by decide) : PE X (.Name x pos) (tEv C (evC d)) := pe_evC (pe_glob hg hm r hd) hr
theorem pe_evInt {i : Int} {j : Nat} : PE X (.Constant (.int i) j pos) (tEv C (evC (.int i))) := pe_evC pe_int fun _ => .int i
theorem pe_evStr {x : Str} {j : Nat} : PE X (.Constant (.str x) j pos) (tEv C (evC (.str x))) := pe_evC pe_str fun _ => .str x
theorem pe_evBl {b : Bool} {j : Nat} : PE X (.Constant (.bool b) j pos) (tEv C (evC (.bl b))) := pe_evC pe_bl fun _ => .bl b
theorem pe_evNon {j : Nat} : PE X (.Constant .none j pos) (tEv C (evC .non)) := pe_evC pe_non fun _ => .non
end
end Ft
set_option Elab.async false
set_option linter.all false
set_option maxRecDepth 100000
set_option maxHeartbeats 2000000
/-! FtO: own classes: attributes, properties, methods, new objects, in, isinstance. -/
namespace Ft
open PySem PySem.Spec PySem.Calls PyProof.Rows L2

section
variable {X : Cx} {pins : List (Addr × Obj)} {σ : L2.St} {H : Hp} {s : Shared} {a C dx : Addr} {fs : List (Str × V)} {f m : Str} {v : V} {A : Around} {E : Value → Shared → Prop}
/-- an instance that may be read -/
theorem ins_of {P : Program} {w : World} {h : Heap} (hok : HOk P w H h) (e : Rd H a (.ins C dx fs)) : ∃ mA, ObjM h a dx C mA ∧ ∀ f, RelO (fs.lookup f) (mA f) := by
  obtain ⟨_, _, ne, ob, mA, n, r, _⟩ := e.ok hok
  exact ⟨mA, ⟨ob, n, ne⟩, r⟩
theorem read_attr {b : Bool} {Q : Value → Shared → Prop} (I : Inv X pins σ H s) (e : Rd H a (.ins C dx fs)) (c : Cls X.K C) (n : NoAttr X.K C f) (l : fs.lookup f = some v) (h : ∀ u s', Inv X pins σ H s' → RelV v u → Q u s') :
    wpAny (model X.prog X.w) A (getAttr (.ref a) f b) Q E s := by
  obtain ⟨mA, O, r⟩ := ins_of I.hok e
  have q := r f
  rw [l] at q
  obtain ⟨u, hu, ru⟩ := RelO.some_of q
  exact get_map I.kIn O (c.get f) c.hd n hu (handed_of ru) (h u _ (I.tok _) ru)
theorem read_meth {g : Addr} {pl : Sem Bool} {Q : Value × List Value → Shared → Prop} (I : Inv X pins σ H s) (e : Rd H a (.ins C dx fs)) (c : Cls X.K C) (k : Meth X.K C m g) (l : fs.lookup m = none) (h : Q (.ref g, [.ref a]) s) :
    wpAny (model X.prog X.w) A (getMethod (.ref a) m pl) Q E s := by
  obtain ⟨mA, O, r⟩ := ins_of I.hok e
  have q := r m
  rw [l] at q
  exact get_meth I.kIn O (c.get m) k.at_ k.fn (RelO.none_of q) h
end

/-! ### what is asked of the names of attributes -/
def Pg.apart (G : Pg) : Prop := ∀ i j, G.nm i = G.nm j → i = j
/-- names from a table; beyond it, names that no text has -/
def nmOf (tab : List Str) (i : Nat) : Str := match tab[i]? with
  | some x => x
  | none => ⟨#[i]⟩
theorem nmOf_apart {tab : List Str} (nd : tab.Nodup) (lg : ∀ x ∈ tab, 2 ≤ x.cps.size) : ∀ i j, nmOf tab i = nmOf tab j → i = j := fun i j e => by
  unfold nmOf at e
  cases ei : tab[i]? with
  | some x =>
    cases ej : tab[j]? with
    | some y =>
      rw [ei, ej] at e
      simp only at e
      subst e
      exact nodup_ix nd ei ej
    | none =>
      rw [ei, ej] at e
      simp only at e
      have z := lg x (List.mem_of_getElem? ei)
      rw [e] at z
      simp at z
  | none =>
    cases ej : tab[j]? with
    | some y =>
      rw [ei, ej] at e
      simp only at e
      have z := lg y (List.mem_of_getElem? ej)
      rw [← e] at z
      simp at z
    | none =>
      rw [ei, ej] at e
      simp only at e
      injection e with e
      simpa using e
theorem nmOf_other {tab : List Str} {x : Str} (h : x ∉ tab) (lg : 2 ≤ x.cps.size) : ∀ i, nmOf tab i ≠ x := fun i e => by
  unfold nmOf at e
  cases ei : tab[i]? with
  | some y =>
    rw [ei] at e
    simp only at e
    subst e
    exact h (List.mem_of_getElem? ei)
  | none =>
    rw [ei] at e
    simp only at e
    rw [← e] at lg
    simp at lg

section
variable {G : Pg} {H : Hp}
theorem repF_get (inj : G.apart) : ∀ {fs : List (Str × V)} {ds : List (Nat × D)} {k : Nat} {d : D}, RepF G H fs ds → ds.lookup k = some d → ∃ v, fs.lookup (G.nm k) = some v ∧ Rep G H v d
  | _, _, _, _, .nil, e => by cases e
  | _, _, k, d, @RepF.cons _ _ i v d' vs ds r t, e => by
    rw [List.lookup_cons] at e ⊢
    by_cases h : k = i
    · subst h
      simp at e
      subst e
      exact ⟨v, by simp, r⟩
    · have h1 : (k == i) = false := by simpa using h
      have h2 : (G.nm k == G.nm i) = false := by
        cases q : (G.nm k == G.nm i) with
        | false => rfl
        | true => exact absurd (inj k i (eq_of_beq q)) h
      rw [h1] at e
      rw [h2]
      exact repF_get inj t e
theorem repF_none {m : Str} (h : ∀ i, G.nm i ≠ m) : ∀ {fs : List (Str × V)} {ds : List (Nat × D)}, RepF G H fs ds → fs.lookup m = none
  | _, _, .nil => rfl
  | _, _, @RepF.cons _ _ i v d' vs ds r t => by
    rw [List.lookup_cons]
    have h2 : (m == G.nm i) = false := by
      cases q : (m == G.nm i) with
      | false => rfl
      | true => exact absurd (eq_of_beq q).symm (h i)
    rw [h2]
    exact repF_none h t
def putFD (k : Nat) (d : D) : List (Nat × D) → List (Nat × D)
  | [] => [(k, d)]
  | (i, e) :: r => if i = k then (i, d) :: r else (i, e) :: putFD k d r
theorem repF_put (inj : G.apart) {k : Nat} {v : V} {d : D} (q : Rep G H v d) : ∀ {fs : List (Str × V)} {ds : List (Nat × D)}, RepF G H fs ds → RepF G H (putF (G.nm k) v fs) (putFD k d ds)
  | _, _, .nil => .cons q .nil
  | _, _, @RepF.cons _ _ i w e vs ds r t => by
    unfold putF putFD
    by_cases h : i = k
    · subst h
      simp only [if_pos]
      exact .cons q t
    · have h2 : G.nm i ≠ G.nm k := fun z => h (inj i k z)
      rw [if_neg h2, if_neg h]
      exact .cons r (repF_put inj q t)
theorem repF_length : ∀ {fs : List (Str × V)} {ds : List (Nat × D)}, RepF G H fs ds → fs.length = ds.length
  | _, _, .nil => rfl
  | _, _, .cons _ t => congrArg Nat.succ (repF_length t)
theorem TR.inv_obj {v : V} {c : Nat} {ds : List (Nat × D)} (t : TR G H v (.obj c ds)) : ∃ a dx fs, v = .ref a ∧ Rd H a (.ins (G.cls c) dx fs) ∧ RepF G H fs ds := by
  rcases t with t | ⟨a, e, t⟩
  · cases t with
    | obj h r => exact ⟨_, _, _, rfl, h.rd, r⟩
  · cases t with
    | obj h r => exact ⟨_, _, _, e, .inl h, r⟩
end

/-! ### e.f -/
/-- e.f, an attribute: cs the classes that it may be of -/
def evFld (cs : List Nat) (k : Nat) (f : EV) : EV := fun ρ => do
  let (h, ρ1) ← settle f ρ
  let d ← Res.of (look ρ1 h)
  match d with
  | .obj c ds => if c ∈ cs then (Res.of (ds.lookup k)).bind fun x => .ok (.val x, ρ1) else .bad
  | _ => .bad
section
variable {X : Cx} {C : Ct} {σ : L2.St} {H H' : Hp} {ρ ρ' : Rho} {a b c e o : Expr} {es : List Expr} {f fa fb fo : EV} {g : CV} {pos p apos : Pos} {cs : List Nat}
theorem pe_evFld {k : Nat} {x : Str} (inj : C.G.apart) (hx : C.G.nm k = x) (hc : ∀ c ∈ cs, Cls X.K (C.G.cls c) ∧ NoAttr X.K (C.G.cls c) x) (he : PE X e (tEv C f)) (hb : attributeBase e x X.env (eval e X.env) = eval e X.env := by rfl) :
    PE X (.Attribute e x pos) (tEv C (evFld cs k f)) := by
  refine ⟨fun pins s σ H Q I q => ?_⟩
  obtain ⟨ρ, h, ρ', R, ev, kk⟩ := q
  obtain ⟨⟨h1, ρ1⟩, e1, ea⟩ := Res.bind_ok ev
  obtain ⟨d, e2, eb⟩ := Res.bind_ok ea
  refine attr_of hb (thn ((pe_settle he).run pins s σ H (fun v H1 => Ext H H1 ∧ EnvR C σ H1 ρ1 ∧ HR C σ H1 ρ1 v h1) I ⟨ρ, h1, ρ1, R, e1, fun v H1 x1 R1 r1 => ⟨x1, R1, r1⟩⟩) fun u s1 ⟨v, H1, I1, rv, x1, R1, r1⟩ => ?_)
  have t := HR.look R1 r1 (Res.of_ok e2)
  split at eb
  · rename_i ci ds
    split at eb
    · rename_i hm
      obtain ⟨y, e3, ec⟩ := Res.bind_ok eb
      cases Res.pure_ok ec
      obtain ⟨a, dx, fs, rfl, ha, rf⟩ := t.inv_obj
      obtain ⟨w, l, rw'⟩ := repF_get inj rf (Res.of_ok e3)
      cases rv
      obtain ⟨c1, c2⟩ := hc ci hm
      exact read_attr I1 ha c1 c2 (hx ▸ l) fun u' s2 I2 ru => ⟨w, H1, I2, ru, kk w H1 x1 R1 rw'⟩
    · cases eb
  · cases eb
/-- the receiver, of one of the classes cs -/
def cvRecv (cs : List Nat) (f : EV) (g : CV) : CV := fun ρ => do
  let (d, ρ1) ← given f ρ
  match d with
  | .obj c _ => if c ∈ cs then (g ρ1).bind fun p => .ok (.fr d :: p.1, p.2) else .bad
  | _ => .bad
theorem recv_ok {hs : List HA} (e : cvRecv cs f g ρ = .ok (hs, ρ')) : ∃ c ds ρ1 hs', c ∈ cs ∧ give f ρ = .ok (.val (.obj c ds), ρ1) ∧ g ρ1 = .ok (hs', ρ') ∧ hs = .fr (.obj c ds) :: hs' := by
  obtain ⟨⟨d, ρ1⟩, e1, ea⟩ := Res.bind_ok e
  dsimp only at ea
  split at ea
  · split at ea
    · rename_i hm
      obtain ⟨⟨hs', ρ2⟩, e2, eb⟩ := Res.bind_ok ea
      cases Res.pure_ok eb
      exact ⟨_, _, ρ1, hs', hm, given_ok e1, e2, rfl⟩
    · cases ea
  · cases ea

theorem recv_imp {Q : List V → Hp → Prop} (h : tCv C (cvRecv cs f g) σ H Q) : ∃ c, c ∈ cs ∧ tEv C (give f) σ H fun x H1 => ∃ a dx fs ds, x = .ref a ∧ Fz H1 a (.ins (C.G.cls c) dx fs) ∧ RepF C.G H1 fs ds ∧ tCv C g σ H1 fun vs H2 => Q (x :: vs) H2 := by
  obtain ⟨ρ, hs, ρ', R, ev, k⟩ := h
  obtain ⟨c, ds, ρ1, hs', hm, e1, e2, rfl⟩ := recv_ok ev
  refine ⟨c, hm, ρ, _, ρ1, R, e1, fun v H1 x1 R1 r1 => ?_⟩
  cases (show Rep C.G H1 v (.obj c ds) from r1) with
  | @obj a dx _ fs _ ha rf => exact ⟨a, dx, fs, ds, rfl, ha, rf, ρ1, hs', ρ', R1, e2, fun vs H2 x2 R2 r2 => k _ H2 (x1.trans x2) R2 (.fr (.obj (ha.ext x2) (rf.ext x2)) r2)⟩

/-! ### methods, properties -/
variable {CX : CXT} {k : Nat} {ps : List Str} {x m : Str} {ms : List Bool} {fn : FnV} {dds : List D} {dvs : List V} {dus : List Value} {E : XK}
/-- what a method must be: of each of the classes a def with the same promise; dvs its defaults -/
structure MethOk (X : Cx) (CX : CXT) (G : Pg) (k : Nat) (cs : List Nat) (m : Str) (ms : List Bool) (fn : FnV) (dvs : List V) (dds : List D) (E : XK) : Prop where
  other : ∀ i, G.nm i ≠ m
  cls : ∀ c ∈ cs, Cls X.K (G.cls c)
  fn : ∀ c ∈ cs, ∃ fa fd ps dus, Meth X.K (G.cls c) m fa ∧ FnOk X.prog X.w X.K X.mg X.base CX k fa fd ps (spF G ms fn) ∧ Binds X.K fd ps dus ∧ Vals dvs dus
  dflt : ∀ H, Reps G H dvs dds
  pass : Passes CX X E
theorem pe_evMeth (M : MethOk X CX C.G k cs m ms fn dvs dds E) (hr : Room k X.A) (ho : PE X o (tEv C fo)) (ha : PA X (e :: es) (tCv C g)) {pl : Sem Bool}
    (hst : starEach (e :: es) X.env = (false, eval e X.env) :: starEach es X.env := by rfl) (hpl : (backTo pos (starEach es X.env)).any (·.1) = false := by rfl)
    (ht : eval (.Call (.Attribute o m apos) (e :: es) [] pos) X.env = (do
      let ov ← eval o X.env
      standAt apos.atName
      let (f, first) ← holding [ov] (getMethod ov m pl)
      callWith pos f first (backTo pos (starEach (e :: es) X.env)) (backToKw pos (keywordEach [] X.env))) := by rfl) :
    PE X (.Call (.Attribute o m apos) (e :: es) [] pos) (tEv C (evCall ms fn dds (cvRecv cs fo g))) := by
  refine ⟨fun pins s σ H Q I h => ?_⟩
  obtain ⟨c, hm, z⟩ := recv_imp (call_imp (dvs := dvs) (E := E) M.dflt h)
  obtain ⟨fa, fd, ps, dus, hM, F, hb, hv⟩ := M.fn c hm
  refine PySem.W.methodCall_KW (pl := pl) (thn ((pe_give ho).run pins s σ H _ I z) fun u s1 ⟨v, H1, I1, rv, a, dx, fs, ds, ev, hz, rf, q⟩ => ?_) ht
  subst ev
  cases rv
  refine read_meth I1 hz.rd (M.cls c hm) hM (repF_none M.other rf) ?_
  refine PySem.W.callWith_K (first := [.ref a]) (h₀ := X.base) I.ok.mod.kin hM.kp (thn (ha.run pos pins s1 σ H1 _ I1 q) fun us s2 ⟨vs, H2, I2, r, q2⟩ => ⟨I2.kIn, ?_⟩) hst hpl
  exact run_fn (us := .ref a :: us) (vs := .ref a :: vs) F hr hb hv M.pass I2 (.cons rfl r) q2
theorem pe_evMeth0 (M : MethOk X CX C.G k cs m ms fn dvs dds E) (hr : Room k X.A) (ho : PE X o (tEv C fo)) {pl : Sem Bool}
    (ht : eval (.Call (.Attribute o m apos) [] [] pos) X.env = (do
      let ov ← eval o X.env
      standAt apos.atName
      let (f, first) ← holding [ov] (getMethod ov m pl)
      callWith pos f first (backTo pos (starEach [] X.env)) (backToKw pos (keywordEach [] X.env))) := by rfl) :
    PE X (.Call (.Attribute o m apos) [] [] pos) (tEv C (evCall ms fn dds (cvRecv cs fo cvNil))) := by
  refine ⟨fun pins s σ H Q I h => ?_⟩
  obtain ⟨c, hm, z⟩ := recv_imp (call_imp (dvs := dvs) (E := E) M.dflt h)
  obtain ⟨fa, fd, ps, dus, hM, F, hb, hv⟩ := M.fn c hm
  refine PySem.W.methodCall_KW (pl := pl) (thn ((pe_give ho).run pins s σ H _ I z) fun u s1 ⟨v, H1, I1, rv, a, dx, fs, ds, ev, hz, rf, q⟩ => ?_) ht
  subst ev
  cases rv
  refine read_meth I1 hz.rd (M.cls c hm) hM (repF_none M.other rf) ?_
  obtain ⟨ρ, hs, ρ', R, en, kk⟩ := q
  cases en
  exact PySem.W.callWith_K0 (first := [.ref a]) I1.kIn hM.kp (run_fn (us := [.ref a]) (vs := [.ref a]) F hr hb hv M.pass I1 (.cons rfl .nil) (kk [] H1 Ext.refl R .nil))
/-- o.m(e, .., k = v): the names ks, their places in the def's order given by gV -/
structure MethKw (X : Cx) (CX : CXT) (G : Pg) (k : Nat) (cs : List Nat) (m : Str) (ms : List Bool) (fn : FnV) (ks : List Str) (gV : List V → List V → List V) (gD : List HA → List D → List HA) (E : XK) : Prop where
  other : ∀ i, G.nm i ≠ m
  cls : ∀ c ∈ cs, Cls X.K (G.cls c)
  fn : ∀ c ∈ cs, ∃ fa fd ps gU, Meth X.K (G.cls c) m fa ∧ FnOk X.prog X.w X.K X.mg X.base CX k fa fd ps (spF G ms fn) ∧ KBinds X.K fd ps ks gU gV
  puts : ∀ {σ : L2.St} {H : Hp} {vs zs : List V} {hs : List HA} {ds : List D}, HAs G σ H vs hs → Reps G H zs ds → HAs G σ H (gV vs zs) (gD hs ds)
  pass : Passes CX X E
/-- a property -/
structure PropOk (X : Cx) (CX : CXT) (G : Pg) (k : Nat) (cs : List Nat) (m : Str) (fn : FnV) (E : XK) : Prop where
  cls : ∀ c ∈ cs, Cls X.K (G.cls c)
  fn : ∀ c ∈ cs, ∃ p fa fd ps, PropOf X.K (G.cls c) m p fa ∧ FnOk X.prog X.w X.K X.mg X.base CX k fa fd ps (spF G [false] fn) ∧ Binds X.K fd ps []
  pass : Passes CX X.nox E
theorem read_prop {pins : List (Addr × Obj)} {s : Shared} {Q : VK} {b : Bool} {E' : Value → Shared → Prop} {a K' p' dx gf : Addr} {fs : List (Str × V)} {fd : FuncData} {sp : Sp} (I : Inv X pins σ H s) (ea : Rd H a (.ins K' dx fs)) (c : Cls X.K K') (hp : PropOf X.K K' m p' gf)
    (F : FnOk X.prog X.w X.K X.mg X.base CX k gf fd ps sp) (hr : Room (k + 1) X.A) (hb : Binds X.K fd ps []) (hx : Passes CX X.nox E) (h : sp [.ref a] H Q E) :
    wpAny (model X.prog X.w) X.A (getAttr (.ref a) m b) (EP X pins σ Q) E' s := by
  obtain ⟨mA, O, _⟩ := ins_of I.hok ea
  obtain ⟨od, J, _⟩ := O.look
  obtain ⟨rest, hrec⟩ := hp.rec_
  have I1 := I.tok (s.toks + 1)
  have hl : ([Value.ref a] ++ ([] : List Value)).length = ps.length := by
    rw [← F.len _ _ _ _ h]
    rfl
  obtain ⟨cd, hcd, _⟩ := PySem.W.any_some c.hd
  have hc : (PySem.W.clsIn X.K K').isSome = true := by rw [hcd]; rfl
  have pg := PySem.W.plainGet_of (c.get m)
  refine PySem.W.get_bind I.kIn J pg.1 (PySem.W.findObj_data hc hp.at_ hp.get hp.tak) pg.2 (wpAny_call (PySem.W.prop_get (s := { s with toks := s.toks + 1 }) I.kIn hrec ?_))
  refine codeAny_mono (F.run X.A.in1 X.stack { s with toks := s.toks + 1 } H ⟨[.ref a], []⟩ [.ref a] [.ref a] Q E hr.in1 I1.env0.in1 (hb _ [.ref a] I1.kIn hl) (.cons rfl .nil) h) fun r s' hq => ?_
  cases r with
  | error er => exact (hx pins σ H { s with toks := s.toks + 1 } er s' (I1.wish _) hq).elim
  | ok fl =>
    cases fl with
    | ret u =>
      obtain ⟨v, H', I3, rv, q3⟩ := I1.after hq
      show wpAny _ _ (handedOut u) _ _ _
      rw [PySem.W.handedOut_of (handed_of rv)]
      exact wpAny_pure ⟨v, H', I3, rv, q3⟩
    | _ => exact hq.elim
theorem pe_evProp (P : PropOk X CX C.G k cs m fn E) (hr : Room (k + 1) X.A) (ho : PE X o (tEv C fo)) (hab : attributeBase o m X.env (eval o X.env) = eval o X.env := by rfl) : PE X (.Attribute o m pos) (tEv C (evCall [false] fn [] (cvRecv cs fo cvNil))) := by
  refine ⟨fun pins s σ H Q I h => ?_⟩
  obtain ⟨c, hm, z⟩ := recv_imp (call_imp (dvs := []) (E := E) (fun _ => .nil) h)
  obtain ⟨p', gf, fd, ps, hp, F, hb⟩ := P.fn c hm
  refine attr_of hab (thn ((pe_give ho).run pins s σ H _ I z) fun u s1 ⟨v, H1, I1, rv, a, dx, fs, ds, ev, hz, rf, q⟩ => ?_)
  subst ev
  cases rv
  obtain ⟨ρ, hs, ρ', R, en, kk⟩ := q
  cases en
  exact read_prop I1 hz.rd (P.cls c hm) hp F hr hb P.pass (kk [] H1 Ext.refl R .nil)

/-! ### x in o -/
theorem own_contains {M : Model} {A : Around} {E : Value → Shared → Prop} {s : Shared} {K : PySem.W.Frag} {x Ca gf : Addr} {ox : Obj} {od : Option Obj} {v : Value} {Q : Bool → Shared → Prop} (Kin : K.In s.heap) (I : PySem.W.InstAt s.heap x ox Ca od)
    (hs : PySem.W.findIn K (.ref Ca) "__contains__" = some (some (.ref gf))) (hf : PySem.W.isFn K (.ref gf) = true) (h : wpAny M A (call (.ref gf) [.ref x, v]) (fun r s' => wpAny M A (truthy r) Q E s') E s) : wpAny M A (PySem.contains (.ref x) v) Q E s := by
  unfold PySem.contains
  refine wpAny_holding ?_
  dsimp only [stdlibNamesSay?]
  refine wpAny_bind (wpAny_bind (I.type.here ((PySem.W.looks_findIn Kin hs).here ?_)))
  rw [if_neg (by first | exact Bool.false_ne_true | simp)]
  unfold callSpecialUnlessNone?
  refine wpAny_bind (wpAny_bind (wpAny_bind (I.type.here ((PySem.W.looks_findIn Kin hs).here ?_))))
  refine wpAny_holding (wpAny_bind ((PySem.W.bind_fn Kin _ (beq_iff_eq.mp hf)).here ?_))
  dsimp only
  rw [if_neg (by first | exact Bool.false_ne_true | simp)]
  exact wpAny_bind (wpAny_mono h (fun r s' q => wpAny_pure q) fun _ _ q => q)
def inOut (neg : Bool) (ρ : Rho) : Hd × List D → Res (Hd × Rho)
  | (.val (.bl b), []) => .ok (.val (.bl (if neg then !b else b)), ρ)
  | _ => .bad
/-- x in o, x not in o; o of an own class that says it itself -/
def evIn (neg : Bool) (cs : List Nat) (fn : FnV) (fx fo : EV) : EV := fun ρ => do
  let (d, ρ1) ← given fx ρ
  let (o, ρ2) ← given fo ρ1
  match o with
  | .obj c _ => if c ∈ cs then (fn [o, d]).bind (inOut neg ρ2) else .bad
  | _ => .bad
theorem op_evIn {neg : Bool} {op : CmpOp} (hop : op = if neg then .NotIn else .In) (M : MethOk X CX C.G k cs "__contains__" [false, false] fn [] [] E) (hr : Room k X.A) :
    OpR X (compareOp op) fun x y H Q => ∃ c ∈ cs, ∃ a dx fs ds d b, y = .ref a ∧ Fz H a (.ins (C.G.cls c) dx fs) ∧ RepF C.G H fs ds ∧ Rep C.G H x d ∧ fn [.obj c ds, d] = .ok (.val (.bl b), []) ∧
      ∀ H', Ext H H' → (∀ p u, H p = some u → H' p = some u) → Q (.bl (if neg then !b else b)) H' := by
  intro pins s σ H x y v u Q I rx ry h
  obtain ⟨c, hm, a, dx, fs, ds, d, b, rfl, hz, rf, rd, ef, q⟩ := h
  cases ry
  obtain ⟨fa, fd, ps, dus, hM, F, hb, hv⟩ := M.fn c hm
  cases hv
  obtain ⟨mA, O, _⟩ := ins_of I.hok hz.rd
  obtain ⟨od, J, _⟩ := O.look
  have go : ∀ (R : Bool → Shared → Prop), (∀ s' H', Inv X pins σ H' s' → Ext H H' → (∀ p u, H p = some u → H' p = some u) → R b s') → wpAny (model X.prog X.w) X.A (PySem.contains (.ref a) v) R X.xe s := fun R hR => by
    refine own_contains I.kIn J hM.at_ hM.fn ?_
    refine thn (run_fn (dvs := []) (ds := []) (us := [.ref a, v]) (vs := [.ref a, x]) (Q := fun w H' => w = .bl b ∧ Ext H H' ∧ ∀ p u, H p = some u → H' p = some u) F hr hb .nil M.pass I (.cons rfl (.cons rx .nil)) ?_) fun r s' ⟨w, H', I', rw', e, x', k'⟩ => ?_
    · refine ⟨[.obj c ds, d], [], .val (.bl b), [], .fr (.obj hz rf) (.fr rd .nil), ef, fun w H' x' k' _ n => ?_⟩
      cases (show Rep C.G H' w (.bl b) from n)
      exact ⟨rfl, x', fun p u e => k' p u e (by simp)⟩
    · subst e
      cases rw'
      exact wpAny_truthy_bool (hR s' H' I' x' k')
  subst hop
  cases neg with
  | false => exact wpAny_bind (go _ fun s' H' I' x' k' => wpAny_pure ⟨.bl b, H', I', rfl, q H' x' k'⟩)
  | true => exact wpAny_bind (go _ fun s' H' I' x' k' => wpAny_pure ⟨.bl (!b), H', I', rfl, q H' x' k'⟩)
theorem in_imp {neg : Bool} {Q : VK} (h : tEv C (evIn neg cs fn fa fo) σ H Q) : tOp (fun x y H Q => ∃ c ∈ cs, ∃ a dx fs ds d b, y = .ref a ∧ Fz H a (.ins (C.G.cls c) dx fs) ∧ RepF C.G H fs ds ∧ Rep C.G H x d ∧ fn [.obj c ds, d] = .ok (.val (.bl b), []) ∧
      ∀ H', Ext H H' → (∀ p u, H p = some u → H' p = some u) → Q (.bl (if neg then !b else b)) H') (tEv C (give fa)) (tEv C (give fo)) σ H Q := by
  obtain ⟨ρ, h, ρ', R, ev, kk⟩ := h
  obtain ⟨⟨d, ρ1⟩, e1, ea⟩ := Res.bind_ok ev
  obtain ⟨⟨o', ρ2⟩, e2, eb⟩ := Res.bind_ok ea
  refine ⟨ρ, .val d, ρ1, R, given_ok e1, fun x H1 x1 R1 r1 => ⟨ρ1, .val o', ρ2, R1, given_ok e2, fun y H2 x2 R2 r2 => ?_⟩⟩
  dsimp only at eb
  split at eb
  · split at eb
    · rename_i c ds hm
      obtain ⟨pr, e3, ec⟩ := Res.bind_ok eb
      unfold inOut at ec
      split at ec
      · cases ec
        cases (show Rep C.G H2 y (.obj _ _) from r2) with
        | @obj a dx _ fs _ hz rf => exact ⟨_, hm, a, dx, fs, _, d, _, rfl, hz, rf, Rep.ext x2 r1, e3, fun H3 x3 k3 => kk _ H3 ((x1.trans x2).trans x3) (R2.grow k3) (.bl _)⟩
      · cases ec
    · cases eb
  · cases eb
theorem pe_evIn {neg : Bool} {op : CmpOp} (hop : op = if neg then .NotIn else .In) (M : MethOk X CX C.G k cs "__contains__" [false, false] fn [] [] E) (hr : Room k X.A) (ha : PE X a (tEv C fa)) (ho : PE X o (tEv C fo)) (hm : behindInMarks op o = false) :
    PE X (.Compare a [op] [o] pos) (tEv C (evIn neg cs fn fa fo)) := pe_imp (pe_cmpR (op_evIn hop M hr) (pe_give ha) (pe_give ho) hm) fun _ _ _ h => in_imp h
theorem pt_evIn {neg : Bool} {op : CmpOp} (hop : op = if neg then .NotIn else .In) (M : MethOk X CX C.G k cs "__contains__" [false, false] fn [] [] E) (hr : Room k X.A) (ha : PE X a (tEv C fa)) (ho : PE X o (tEv C fo)) (hm : behindInMarks op o = false) :
    PT X (.Compare a [op] [o] pos) (tBv C (tst (evIn neg cs fn fa fo))) := pt_imp (pt_cmpR (op_evIn hop M hr) (pe_give ha) (pe_give ho) hm) fun σ H Q h => by
  obtain ⟨ρ, b, ρ', R, ev, kk⟩ := h
  refine in_imp ⟨ρ, _, ρ', R, tst_ok ev, fun v H' x R' r => ?_⟩
  cases (show Rep C.G H' v (.bl b) from r)
  exact ⟨b, rfl, kk H' x R'⟩

/-! ### keywords -/
theorem pk_imp {kws : List Keyword} {t t' : TA} (h : PK X kws t) (i : ∀ σ H Q, t' σ H Q → t σ H Q) : PK X kws t' := ⟨fun pos pins s σ H Q I q => h.run pos pins s σ H Q I (i σ H Q q)⟩
theorem pk_gvNil : PK X [] (tGv C gvNil) := pk_imp pk_nil fun σ H Q q => by
  obtain ⟨ρ, hs, ρ', R, ev, k⟩ := q
  cases ev
  exact k [] H Ext.refl R .nil
theorem pk_gvCons {kws : List Keyword} {nm : Option Str} {kpos : Pos} {gk : GV} (ha : PE X e (tEv C fa)) (hr : PK X kws (tGv C gk)) : PK X (⟨nm, e, kpos⟩ :: kws) (tGv C (gvCons fa gk)) :=
  pk_imp (pk_cons (pe_give ha) hr) fun σ H Q q => by
    obtain ⟨ρ, hs, ρ', R, ev, k⟩ := q
    obtain ⟨⟨d, ρ1⟩, e1, ea⟩ := Res.bind_ok ev
    obtain ⟨⟨ds, ρ2⟩, e2, eb⟩ := Res.bind_ok ea
    cases Res.pure_ok eb
    exact ⟨ρ, .val d, ρ1, R, given_ok e1, fun x H1 x1 R1 r1 => ⟨ρ1, ds, _, R1, e2, fun vs H2 x2 R2 r2 => k (x :: vs) H2 (x1.trans x2) R2 (.cons (Rep.ext x2 r1) r2)⟩⟩
/-- positional values, then those of the keywords, put in the def's order -/
def cvK (g : CV) (gk : GV) (gD : List HA → List D → List HA) : CV := fun ρ => do
  let (hs, ρ1) ← g ρ
  let (ds, ρ2) ← gk ρ1
  pure (gD hs ds, ρ2)
theorem cvK_imp {gk : GV} {gD : List HA → List D → List HA} {gV : List V → List V → List V} {Q : List V → Hp → Prop} (pu : ∀ {σ : L2.St} {H : Hp} {vs zs : List V} {hs : List HA} {ds : List D}, HAs C.G σ H vs hs → Reps C.G H zs ds → HAs C.G σ H (gV vs zs) (gD hs ds))
    (h : tCv C (cvK g gk gD) σ H Q) : tCv C g σ H fun vs H1 => tGv C gk σ H1 fun zs H2 => Q (gV vs zs) H2 := by
  obtain ⟨ρ, hs, ρ', R, ev, k⟩ := h
  obtain ⟨⟨hs', ρ1⟩, e1, ea⟩ := Res.bind_ok ev
  obtain ⟨⟨ds, ρ2⟩, e2, eb⟩ := Res.bind_ok ea
  cases Res.pure_ok eb
  exact ⟨ρ, hs', ρ1, R, e1, fun vs H1 x1 R1 r1 => ⟨ρ1, ds, _, R1, e2, fun zs H2 x2 R2 r2 => k _ H2 (x1.trans x2) R2 (pu (r1.ext x2) r2)⟩⟩

/-! ### a new object -/
def evMake (c : Nat) (fn : FnV) (gk : GV) (gD : List D → List D) : EV := fun ρ => do
  let (ds, ρ1) ← gk ρ
  let (r, ls) ← fn (.obj c [] :: gD ds)
  match r, ls with
  | .val .non, [d] => pure (.tmp d, ρ1)
  | _, _ => .bad
/-- what lies behind the making of an object -/
theorem make_back {c : Nat} {gk : GV} {gD : List D → List D} {n m : Nat} {Q : VK} {gV : List V → List V} (hl : ∀ ρ ds ρ', gk ρ = .ok (ds, ρ') → ds.length = m) (hn : ∀ {H : Hp} {vs : List V} {ds : List D}, Reps C.G H vs ds → ds.length = m → Reps C.G H (gV vs) (gD ds) ∧ (gD ds).length = n)
    (h : tEv C (evMake c fn gk gD) σ H Q) : tGv C gk σ H fun zs H2 => ∀ x dx, H2 x = none → H2 dx = none → dx ≠ x → spF C.G (true :: List.replicate n false) fn (.ref x :: gV zs) (upd (upd H2 dx (.own x)) x (.ins (C.G.cls c) dx [])) (fun v H3 => v = .non ∧ Q (.ref x) H3) E := by
  obtain ⟨ρ, h, ρ', R, ev, k⟩ := h
  obtain ⟨⟨ds, ρ1⟩, e1, ea⟩ := Res.bind_ok ev
  obtain ⟨⟨r, ls⟩, e2, eb⟩ := Res.bind_ok ea
  dsimp only at eb
  split at eb
  · rename_i d
    cases Res.pure_ok eb
    refine ⟨ρ, ds, _, R, e1, fun zs H1 x1 R1 r1 x dx hx hdx ne => ?_⟩
    have g1 : Grow H1 (upd H1 dx (.own x)) := Grow.upd hdx
    have hx1 : (upd H1 dx (.own x)) x = none := by rw [upd_ne (Ne.symm ne)]; exact hx
    have g2 : Grow H1 (upd (upd H1 dx (.own x)) x (.ins (C.G.cls c) dx [])) := g1.trans (Grow.upd hx1)
    have args : ∀ {vs : List V} {es : List D} {H : Hp}, Reps C.G H vs es → ArgsR C.G H (List.replicate es.length false) vs es [] := fun {vs es H} r => by
      induction vs generalizing es with
      | nil => cases r; exact .nil
      | cons v vs ih => cases r with | cons q t => exact .fr q (ih t)
    obtain ⟨q1, q2⟩ := hn r1 (hl _ _ _ e1)
    refine ⟨.obj c [] :: gD ds, [x], .val .non, [d], .ln (.obj upd_same .nil) (by simp) (q2 ▸ args (q1.ext g2.ext)), e2, fun v H3 x3 k3 o n3 => ?_⟩
    cases (show Rep C.G H3 v .non from n3)
    refine ⟨rfl, ?_⟩
    have od : OwnR C.G H3 x d := by cases o with | cons o _ => exact o
    have keep : ∀ b u, H1 b = some u → H3 b = some u := fun b u e => k3 b u (g2 b u e) (by
      intro m
      have : b = x := by simpa using m
      rw [this, hx] at e
      cases e)
    refine k _ H3 ((x1.trans g2.ext).trans x3) (R1.grow keep) ⟨x, rfl, od, R1.fresh hx, fun i w q y => ?_⟩
    obtain ⟨b, q3, q4, _⟩ := R1.ow i w q
    rw [y] at q3
    cases q3
    obtain ⟨u, q5⟩ := q4.there
    rw [hx] at q5; cases q5
  · cases eb
/-- C(k = v, ..) -/
theorem pe_evMakeK {c n : Nat} {f' : Addr} {fd : FuncData} {kws : List Keyword} {ks : List Str} {gU : List Value → List Value → List Value} {gV : List V → List V → List V} {gk : GV} {gD : List D → List D} (M : Mk X.K (C.G.cls c) f') (F : FnOk X.prog X.w X.K X.mg X.base CX k f' fd ps (spF C.G (true :: List.replicate n false) fn)) (hr : Room (k + 1) X.A)
    (hg : Gl X x) (hm : X.mg x = some (.ref (C.G.cls c))) (hb : KBn X.K fd ps 1 ks gU gV) (hx : Passes CX X E) {gW : List V → List V} (hgV : ∀ (y : V) zs, gV [y] zs = y :: gW zs)
    (hn : ∀ {H : Hp} {vs : List V} {ds : List D}, Reps C.G H vs ds → ds.length = ks.length → Reps C.G H (gW vs) (gD ds) ∧ (gD ds).length = n) (hl : ∀ ρ ds ρ', gk ρ = .ok (ds, ρ') → ds.length = ks.length) (hkw : PK X kws (tGv C gk))
    (hall : (backToKw pos (keywordEach kws X.env)).all (·.1.isSome) = true := by rfl) (hks : (backToKw pos (keywordEach kws X.env)).filterMap (·.1) = ks := by rfl) (hdb : (x == ("__debug__" : Str)) = false := by decide)
    (hpl : ((backTo pos (starEach [] X.env)).any (·.1) || (backToKw pos (keywordEach kws X.env)).any (·.1.isNone)) = false := by rfl) :
    PE X (.Call (.Name x p) [] kws pos) (tEv C (evMake c fn gk gD)) :=
  pe_imp (pe_makeK0 M F hr hg hm hb hx hkw hall hks hdb hpl) fun σ H Q h => by
    obtain ⟨ρ, ds, ρ', R, e, kk⟩ := make_back (E := E) (gV := gW) hl hn h
    refine ⟨ρ, ds, ρ', R, e, fun zs H1 x1 R1 r1 => ⟨rfl, by rw [r1.length]; exact hl _ _ _ e, fun y dx a1 a2 a3 => ?_⟩⟩
    rw [hgV]
    exact kk zs H1 x1 R1 r1 y dx a1 a2 a3

/-! ### self.f = e -/
def svFld (cs : List Nat) (i k : Nat) (f : EV) : SV := fun ρ => do
  let (d, ρ1) ← given f ρ
  let o ← Res.of (Rho.own ρ1 i)
  match o with
  | .obj c ds => if c ∈ cs ∧ ds.length < 900 then (Res.of (ρ1.put i (.obj c (putFD k d ds)))).bind fun ρ2 => .ok (.next, ρ2) else .bad
  | _ => .bad
theorem ps_svFld {i k' : Nat} {y x : Str} {pos' : Pos} (inj : C.G.apart) (hx : C.G.nm k' = x) (hc : ∀ c ∈ cs, Cls X.K (C.G.cls c) ∧ NoAttr X.K (C.G.cls c) x) (hN : X.N[i]? = some y) (hv : Vis X.env.scope y) (hd : (y == ("__debug__" : Str)) = false) (hcd : (y == ("__classdict__" : Str)) = false) (he : PE X e (tEv C f))
    (hs : swapsWith e (some (.Attribute (.Name y p) x pos')) pos.line X.env = pure false := by rfl) : PS X (.Assign [.Attribute (.Name y p) x pos'] e pos) (tSv C (svFld cs i k' f)) :=
  ps_imp (ps_fld (pe_var hN hv hd hcd) (pe_give he) hs) fun Dd σ H q => by
    obtain ⟨ρ, o, ρ', R, ev, kk⟩ := q
    obtain ⟨⟨d, ρ1⟩, e1, ea⟩ := Res.bind_ok ev
    obtain ⟨o', e2, eb⟩ := Res.bind_ok ea
    have e2 := Res.of_ok e2
    split at eb
    · rename_i ci dsi e0
      split at eb
      · rename_i hm
        obtain ⟨ρ2, e3, ec⟩ := Res.bind_ok eb
        cases ec
        refine ⟨ρ, .val d, ρ1, R, given_ok e1, fun v H1 x1 R1 r1 => ?_⟩
        obtain ⟨a, s, ow, _⟩ := R1.ow i _ e2
        refine ⟨_, s, ?_⟩
        obtain ⟨c1, c2⟩ := hc _ hm.1
        cases ow with
        | @obj dx _ fs _ ha rf =>
          have xx : Ext H1 (upd H1 a (.ins (C.G.cls ci) dx (putF x v fs))) := Ext.upd (OwnR.obj ha rf)
          refine ⟨a, _, dx, fs, rfl, ha, c1, c2, by rw [repF_length rf]; omega, ?_⟩
          refine kk σ _ (x1.trans xx) (R1.put (Res.of_ok e3) s xx (fun b hb => upd_ne hb) (.obj upd_same ?_))
          subst hx
          exact (repF_put inj r1 rf).ext xx
      · cases eb
    · cases eb
end
end Ft
set_option Elab.async false
set_option linter.all false
set_option maxRecDepth 100000
set_option maxHeartbeats 2000000
/-! FtP: isinstance; dict comprehensions; written dicts. -/
namespace Ft
open PySem PySem.Spec PySem.Calls PyProof.Rows L2

/-! ### isinstance -/
/-- what an own class must have besides -/
structure ClsI (K : PySem.W.Frag) (C : Addr) : Prop where
  cl : Cls K C
  ha : PySem.W.findIn K (.ref C) "__class__" = some (some (.builtin "object.__class__"))
  hn : PySem.W.specialIn K (.builtin "object.__class__") "__get__" = some (some (.builtin "getset_descriptor.__get__"))
  ht : PySem.W.takesIn K (.builtin "object.__class__") = some true
  hm : PySem.W.mroIn K C (.type "object") = some true
/-- the type of a thing -/
def typD (G : Pg) : D → Option Value
  | .non => some (.type "NoneType")
  | .bl _ => some (.type "bool")
  | .int _ => some (.type "int")
  | .str _ => some (.type "str")
  | .tup _ => some (.type "tuple")
  | .lst _ => some (.type "list")
  | .dct _ => some (.type "dict")
  | .dcT _ => some (.type "dict")
  | .obj c _ => some (.ref (G.cls c))
  | _ => none
section
variable {X : Cx} {pins : List (Addr × Obj)} {σ : L2.St} {H : Hp} {s : Shared} {G : Pg}
theorem kit_tr (hK : X.K = G.K) (I : Inv X pins σ H s) {v : V} {d : D} {u t : Value} (tr : TR G H v d) (r : RelV v u) (e : typD G d = some t) (hc : ∀ c fs, d = .obj c fs → ClsI X.K (G.cls c)) :
    ∃ P : Heap → Prop, PySem.W.KitX X.K u t P ∧ P s.heap ∧ u ≠ .builtin "__main__.__loader__#opaque" := by
  have seq : ∀ {a : Addr} {xs : List V}, Rd H a (.lst xs) → PySem.W.KitAt a "list" s.heap := fun h => by
    obtain ⟨_, _, n, _, q⟩ := h.ok I.hok
    exact ⟨_, q, rfl⟩
  cases d with
  | non => cases e; obtain rfl := tr.inv_non; cases r; exact ⟨_, PySem.W.kitx_none, True.intro, fun z => nomatch z⟩
  | bl b => cases e; obtain rfl := tr.inv_bl; cases r; exact ⟨_, PySem.W.kitx_bool, True.intro, fun z => nomatch z⟩
  | int i => cases e; obtain rfl := tr.inv_int; obtain ⟨t, rfl⟩ := r; exact ⟨_, PySem.W.kitx_int, True.intro, fun z => nomatch z⟩
  | str x => cases e; obtain rfl := tr.inv_str; obtain ⟨t, rfl⟩ := r; exact ⟨_, PySem.W.kitx_str, True.intro, fun z => nomatch z⟩
  | tup ds =>
    cases e
    obtain ⟨a, vs, rfl, h, _⟩ := tr.inv_tup
    cases r
    obtain ⟨its, _, ⟨o, h1, h2, _⟩, _⟩ := I.tuple (hK ▸ h)
    exact ⟨_, PySem.W.kitx_tuple, ⟨o, h1, h2⟩, fun z => nomatch z⟩
  | lst ds =>
    cases e
    obtain ⟨a, vs, rfl, h, _⟩ := tr.inv_lst
    cases r
    exact ⟨_, PySem.W.kitx_list, seq h, fun z => nomatch z⟩
  | dct ds =>
    cases e
    obtain ⟨a, vs, rfl, h, _⟩ := tr.inv_dct
    cases r
    obtain ⟨_, _, _, _, o, _, _, h1, h2, _⟩ := h.ok I.hok
    exact ⟨_, PySem.W.kitx_dict, ⟨o, h1, h2.1⟩, fun z => nomatch z⟩
  | dcT ds =>
    cases e
    obtain ⟨a, vs, rfl, h, _⟩ := tr.inv_dcT
    cases r
    obtain ⟨_, _, _, _, o, _, _, h1, h2, _⟩ := h.ok I.hok
    exact ⟨_, PySem.W.kitx_dict, ⟨o, h1, h2.1⟩, fun z => nomatch z⟩
  | obj c ds =>
    cases e
    obtain ⟨a, dx, fs, rfl, h, _⟩ := tr.inv_obj
    cases r
    have ci := hc c ds rfl
    obtain ⟨mA, O, _⟩ := ins_of I.hok h
    obtain ⟨od, J, _⟩ := O.look
    exact ⟨_, PySem.W.kitx_own (ci.cl.get _) ci.cl.hd ci.ha ci.hn ci.ht ci.hm, J, fun z => nomatch z⟩
  | set _ => cases e
  | atm _ => cases e
  | scr _ => cases e
end
/-- isinstance(x, c): u the class; ans what is answered of a thing, as far as it is told -/
structure IsiOk (X : Cx) (G : Pg) (u : Value) (ans : D → Option Bool) : Prop where
  right : ∀ d b, ans d = some b → ∃ t, typD G d = some t ∧ PySem.W.kitOne X.K t u = some b
  cls : ∀ c fs, (ans (.obj c fs)).isSome = true → ClsI X.K (G.cls c)
/-- of a built-in class -/
def isB (T : String) : D → Option Bool
  | .non => kitB "NoneType" T
  | .bl _ => kitB "bool" T
  | .int _ => kitB "int" T
  | .str _ => kitB "str" T
  | .tup _ => kitB "tuple" T
  | .lst _ => kitB "list" T
  | .dct _ => kitB "dict" T
  | .dcT _ => kitB "dict" T
  | _ => none
theorem isB_ok {X : Cx} {G : Pg} {T : String} : IsiOk X G (.type T) (isB T) where
  right := fun d b e => by cases d <;> first | exact ⟨_, rfl, kit_ty e⟩ | cases e
  cls := fun c fs e => by cases e
/-- of the own class c0 -/
def isC (c0 : Nat) : D → Option Bool
  | .obj c _ => if c = c0 then some true else none
  | _ => none
theorem isC_ok {X : Cx} {G : Pg} {c0 : Nat} (ci : ClsI X.K (G.cls c0)) : IsiOk X G (.ref (G.cls c0)) (isC c0) where
  right := fun d b e => by
    cases d with
    | obj c fs =>
      unfold isC at e
      dsimp only at e
      split at e
      · rename_i h
        cases e
        subst h
        refine ⟨_, rfl, ?_⟩
        unfold PySem.W.kitOne
        rw [if_pos (by simp)]
      · cases e
    | _ => cases e
  cls := fun c fs e => by
    unfold isC at e
    dsimp only at e
    split at e
    · rename_i h; subst h; exact ci
    · cases e
def evIsi (ans : D → Option Bool) (f : EV) : EV := fun ρ => do
  let (h, ρ1) ← settle f ρ
  let d ← Res.of (look ρ1 h)
  let b ← Res.of (ans d)
  pure (.val (.bl b), ρ1)
section
variable {X : Cx} {C : Ct} {σ : L2.St} {H H' : Hp} {ρ ρ' : Rho} {a b c e : Expr} {es : List Expr} {f fa fb : EV} {pos p : Pos}
theorem call_isiD {u : Value} {cv : V} {ans : D → Option Bool} (hK : X.K = C.G.K) (hk : ClsV cv u) (ok : IsiOk X C.G u ans) : CallR X (.builtin "isinstance") (fun xs H Q => ∃ x d b, xs = [x, cv] ∧ TR C.G H x d ∧ ans d = some b ∧ Q (.bl b) H) := by
  intro pins s σ H xs us Q I r h
  obtain ⟨x, d, b, rfl, t, e, q⟩ := h
  obtain ⟨u1, u2, rfl, r1, r2⟩ := vals2 r
  have e2 := hk.eq r2
  subst e2
  obtain ⟨t', e1, e3⟩ := ok.right d b e
  obtain ⟨P, Z, p, hx⟩ := kit_tr hK I t r1 e1 fun c fs z => ok.cls c fs (by rw [← z, e]; rfl)
  exact PySem.W.kia_one Z I.kIn p e3 hx fun tk => ⟨.bl b, H, I.tok tk, rfl, q⟩
theorem pe_evIsi {u : Value} {cv : V} {ans : D → Option Bool} (hK : X.K = C.G.K) (hk : ClsV cv u) (ok : IsiOk X C.G u ans) (hg : Gl X "isinstance") (hm : X.mg "isinstance" = none) (ha : PE X a (tEv C f)) (hc : PE X c (tC cv))
    (s1 : starEach [a, c] X.env = (false, eval a X.env) :: starEach [c] X.env := by rfl) (s2 : starEach [c] X.env = (false, eval c X.env) :: starEach [] X.env := by rfl) (hpl : (backTo pos (starEach [c] X.env)).any (·.1) = false := by rfl) :
    PE X (.Call (.Name "isinstance" p) [a, c] [] pos) (tEv C (evIsi ans f)) :=
  pe_imp (pe_callB (call_isiD hK hk ok) hg hm (by decide +kernel) (pa_cons (pe_settle ha) (pa_cons hc pa_nil s2) s1) (by decide) (by decide) s1 hpl) fun σ H Q h => by
    obtain ⟨ρ, h, ρ', R, ev, k⟩ := h
    obtain ⟨⟨h1, ρ1⟩, e1, ea⟩ := Res.bind_ok ev
    obtain ⟨d, e2, eb⟩ := Res.bind_ok ea
    obtain ⟨b, e3, ec⟩ := Res.bind_ok eb
    cases Res.pure_ok ec
    exact ⟨ρ, h1, _, R, e1, fun v H1 x1 R1 r1 => ⟨v, d, b, rfl, HR.look R1 r1 (Res.of_ok e2), Res.of_ok e3, k _ H1 x1 R1 (.bl b)⟩⟩
end

/-! ### dict comprehensions -/
def dcLoop (g : GT) (tt : BV) (fk fv : EV) (vs : List Nat) : List D → List (Key × D) → Rho → Res (List (Key × D) × Rho)
  | [], acc, ρ => .ok (acc, ρ)
  | d :: ds, acc, ρ => do
    let ρ1 ← Res.of (g d ρ)
    let (b, ρ2) ← tt ρ1
    if b then
      let (x, ρ3) ← given fk ρ2
      let (y, ρ4) ← given fv ρ3
      let k ← Res.of (dKey x)
      dcLoop g tt fk fv vs ds (putD acc k y) (ρ4.wipe vs)
    else dcLoop g tt fk fv vs ds acc (ρ2.wipe vs)
def evDc (it : IV) (g : GT) (tt : BV) (fk fv : EV) (vs : List Nat) : EV := fun ρ => do
  let (ds, ρ1) ← it ρ
  if ρ1.idle vs && decide (ds.length ≤ 1000000) then
    let (r, ρ2) ← dcLoop g tt fk fv vs ds [] (ρ1.wipe vs)
    pure (.tmp (.dct r), ρ1.unwipe ρ2 vs)
  else .bad
section
variable {X : Cx} {C : Ct} {σ : L2.St} {H H' : Hp} {ρ ρ' : Rho} {it : IV} {g : GT} {tt : BV} {fk fv : EV} {vs : List Nat}
theorem ext_putK {D : Addr} {xs ys : List (Key × V)} (e : H D = some (.dK xs)) : Ext H (upd H D (.dK ys)) :=
  ⟨fun b vs q => by rw [upd_ne (fun z => by rw [z, e] at q; cases q)]; exact q, fun b o u q => by rw [upd_ne (fun z => by rw [z, e] at q; cases q)]; exact q⟩
theorem dc_imp {Q : VK} (h : tEv C (evDc it g tt fk fv vs) σ H Q) : tDc (iIv C it) (uGt C vs g) (uBv C tt) (uGiven C fk) (uGiven C fv) vs σ H Q := by
  obtain ⟨ρ, h, ρ', R, ev, k⟩ := h
  obtain ⟨⟨ds, ρ1⟩, e1, ea⟩ := Res.bind_ok ev
  dsimp only at ea
  split at ea
  · rename_i hc
    rw [Bool.and_eq_true, decide_eq_true_eq] at hc
    obtain ⟨hid, hlen⟩ := hc
    obtain ⟨⟨r, ρ2⟩, e2, eb⟩ := Res.bind_ok ea
    cases Res.pure_ok eb
    refine ⟨ρ, ds, ρ1, R, e1, fun J H1 x1 R1 r1 D hD => ?_⟩
    have nl := R1.notLent hD
    have lo := lent_out R1 hid
    have h0 := R1.fresh hD
    have gD : Grow H1 (upd H1 D (.dK [])) := Grow.upd hD
    have start : EnvR (C.hold D (.dK [])) (L2.wipe σ vs) (upd H1 D (.dK [])) (ρ1.wipe vs) := by
      refine EnvR.wipe (σ' := σ) ?_ rfl rfl lo
      refine (R1.grow gD).holdOn upd_same nl fun i d q z => ?_
      obtain ⟨a, q1, q2, _⟩ := R1.ow i d q
      rw [z] at q1
      cases q1
      obtain ⟨w, q3⟩ := q2.there
      rw [hD] at q3; cases q3
    refine ⟨fun i m H => m = ds.length - i ∧ i ≤ ds.length ∧ ∃ (xs : List (Key × V)) (acc : List (Key × Ft.D)) (ρt : Rho), H D = some (.dK xs) ∧ RepK C.G H xs acc ∧ acc.length ≤ i ∧ Ext H1 H ∧ EnvR (C.hold D (.dK xs)) (L2.wipe σ vs) H ρt ∧
      dcLoop g tt fk fv vs (ds.drop i) acc ρt = .ok (r, ρ2), ⟨ds.length, by simp, Nat.zero_le _, [], [], ρ1.wipe vs, upd_same, .nil, Nat.le_refl _, gD.ext, start, by simpa using e2⟩, ?_⟩
    rintro i m H2 ⟨rfl, hi, xs, acc, ρt, hx, ra, hal, x2, R2, el⟩
    by_cases hlt : i < ds.length
    · have ed : ds.drop i = ds[i] :: ds.drop (i + 1) := by rw [List.drop_eq_getElem_cons hlt]
      rw [ed] at el
      obtain ⟨ρ3, e3, eb⟩ := Res.bind_ok el
      obtain ⟨⟨b, ρ4⟩, e4, ec⟩ := Res.bind_ok eb
      obtain ⟨go, yl⟩ := (r1 H2 x2 i).1 _ (List.getElem?_eq_getElem hlt)
      refine .inr ⟨go, fun H => ∃ (xs : List (Key × V)) (acc : List (Key × Ft.D)) (ρt : Rho), H D = some (.dK xs) ∧ RepK C.G H xs acc ∧ acc.length ≤ i + 1 ∧ Ext H1 H ∧ EnvR (C.hold D (.dK xs)) (L2.wipe σ vs) H ρt ∧
        dcLoop g tt fk fv vs (ds.drop (i + 1)) acc ρt = .ok (r, ρ2), fun H' z => ⟨_, by omega, rfl, hlt, z⟩, fun x H3 y => ?_⟩
      obtain ⟨gr, rp⟩ := yl x H3 y
      refine ⟨upd C.H0 D (.dK xs), ds[i], ρt, ρ3, R2.grow gr, rp, Res.of_ok e3, fun σ4 H4 x4 R4 l4 s4 => ?_⟩
      have l4 : σ4.length = σ.length := by rw [l4, wipe_length]
      have w4 : L2.wipe σ4 vs = L2.wipe σ vs := wipe_same l4 s4
      have xx4 : Ext H1 H4 := (x2.trans gr.ext).trans x4
      refine ⟨w4, upd C.H0 D (.dK xs), ρ3, b, ρ4, R4, e4, fun H5 x5 R5 => ?_⟩
      have xx5 := xx4.trans x5
      have ra5 := ra.ext ((gr.ext.trans x4).trans x5)
      cases b with
      | false =>
        dsimp only
        rw [if_neg Bool.false_ne_true]
        have ec : dcLoop g tt fk fv vs (ds.drop (i + 1)) acc (ρ4.wipe vs) = .ok (r, ρ2) := ec
        exact ⟨xs, acc, ρ4.wipe vs, R5.held nl, ra5, by omega, xx5, R5.wipe w4 l4 lo, ec⟩
      | true =>
        dsimp only
        rw [if_pos rfl]
        dsimp only at ec
        rw [if_pos rfl] at ec
        obtain ⟨⟨wk, ρ5⟩, e5, ed⟩ := Res.bind_ok ec
        obtain ⟨⟨wv, ρ6⟩, e6, ee⟩ := Res.bind_ok ed
        obtain ⟨key, e7, ef⟩ := Res.bind_ok ee
        have e7 := Res.of_ok e7
        refine ⟨upd C.H0 D (.dK xs), ρ4, .val wk, ρ5, R5, given_ok e5, fun y6 H6 x6 R6 r6 => ⟨upd C.H0 D (.dK xs), ρ5, .val wv, ρ6, R6, given_ok e6, fun z7 H7 x7 R7 r7 => ?_⟩⟩
        have hD7 := R7.held nl
        have la : xs.length = acc.length := RepK.length ra
        have xp := ext_putK (ys := putK xs key z7) hD7
        have ky : y6 = kV key := rep_kD (G := C.G) (H := H6) (k := key) (.inl (dKey_some e7 ▸ r6))
        have lp := length_putD acc key wv
        refine ⟨xs, key, ky, hD7, by rw [sizeLine_eq]; omega, putK xs key z7, putD acc key wv, ρ6.wipe vs, upd_same, ?_, by omega, ((xx5.trans x6).trans x7).trans xp, (R7.rehold nl xp).wipe w4 l4 lo, ef⟩
        exact (repK_put (ra5.ext (x6.trans x7)) r7).ext xp
    · have e : ds.length = i := by omega
      rw [List.drop_eq_nil_of_le (by omega)] at el
      cases el
      refine .inl ⟨(r1 H2 x2 i).2 e, ?_⟩
      have Re := R2.holdOff h0
      refine k _ H2 (x1.trans x2) (R1.unwipe hid x2 Re) ⟨D, rfl, .dK hx ra, h0, fun j d q z => ?_⟩
      have hl : ρ2.length = ρ1.length := by rw [Re.len, R1.len, wipe_length]
      by_cases m : j ∈ vs
      · unfold Rho.own at q
        rw [unwipe_in hl m] at q
        rcases idle_at hid m with e | ⟨d', e⟩
        · rw [e] at q; cases q
        · rw [e] at q; cases q
      · unfold Rho.own at q
        rw [unwipe_out m] at q
        rw [← wipe_out (σ := σ) m] at z
        exact R2.holdApart nl j d q z
  · cases ea
variable {kx vx tg iter : Expr} {ifs : List Expr} {scope : Scope} {own : List (Str × Nat)} {pos : Pos}
theorem pe_evDc (hc : X.calm = true) (hN : X.N.Nodup) (hi : PI X tg iter (iIv C it)) (ok : BlkOk X.N X.env.scope scope own)
    (hg : ∀ (s : Shared) (H : Hp) (A : Addr) (cl : List (Str × Addr)) (fp : List Addr) (H0 : Hp), PG (X.blk s H scope (compEnvC scope cl A X.env) fp) tg (tGt (C.with H0) (own.map (·.2)) g))
    (ht : ∀ (s : Shared) (H : Hp) (A : Addr) (cl : List (Str × Addr)) (fp : List Addr) (H0 : Hp), PTs (X.blk s H scope (compEnvC scope cl A X.env) fp) ifs (tBv (C.with H0) tt))
    (hk : ∀ (s : Shared) (H : Hp) (A : Addr) (cl : List (Str × Addr)) (fp : List Addr) (H0 : Hp), PE (X.blk s H scope (compEnvC scope cl A X.env) fp) kx (tEv (C.with H0) fk))
    (he : ∀ (s : Shared) (H : Hp) (A : Addr) (cl : List (Str × Addr)) (fp : List Addr) (H0 : Hp), PE (X.blk s H scope (compEnvC scope cl A X.env) fp) vx (tEv (C.with H0) fv)) (hs : ∀ x, foldedSetIterable iter X.env x = pure x := by intro _; rfl) :
    PE X (.DictComp kx vx [⟨tg, iter, ifs, 0⟩] scope pos) (tEv C (evDc it g tt fk fv (own.map (·.2)))) :=
  pe_imp (pe_dc hc hN hi ok (fun s H A cl fp => pg_u (hg s H A cl fp)) (fun s H A cl fp => pts_u (ht s H A cl fp)) (fun s H A cl fp => pe_u fun H0 => pe_give (hk s H A cl fp H0)) (fun s H A cl fp => pe_u fun H0 => pe_give (he s H A cl fp H0)) hs) fun _ _ _ h => dc_imp h
theorem svsetd_imp {i : Nat} {Dd : Ends} (h : tSv C (svSet i (evDc it g tt fk fv vs)) Dd σ H) : tEv C (evDc it g tt fk fv vs) σ H (fun x H1 => gName i x σ H1 Dd.nx) := by
  obtain ⟨ρ, o, ρ', R, ev, k⟩ := h
  obtain ⟨⟨h, ρ1⟩, e1, ea⟩ := Res.bind_ok ev
  obtain ⟨ρ2, e2, eb⟩ := Res.bind_ok ea
  cases Res.pure_ok eb
  obtain ⟨h0, ρ0, e3, e4⟩ := keep_ok e1
  have tmp : h = h0 ∧ ρ1 = ρ0 := by
    cases h0 with
    | val d => cases e4; exact ⟨rfl, rfl⟩
    | tmp d => cases e4; exact ⟨rfl, rfl⟩
    | slot j =>
      exfalso
      obtain ⟨⟨ds, ρ3⟩, _, q⟩ := Res.bind_ok e3
      dsimp only at q
      split at q
      · obtain ⟨⟨r, ρ4⟩, _, q2⟩ := Res.bind_ok q
        cases q2
      · cases q
  obtain ⟨rfl, rfl⟩ := tmp
  exact ⟨ρ, h, ρ1, R, e3, fun v H1 x1 R1 r => k _ H1 x1 (R1.stored (Res.of_ok e2) r)⟩
/-- name = {..} on one line -/
theorem ps_svSetDc {i : Nat} {y : Str} {py spos : Pos} (hc : X.calm = true) (hN : X.N.Nodup) (hy : X.N[i]? = some y) (hyl : X.env.scope.names.lookup y = some .local)
    (hsw : swapsWith (.DictComp kx vx [⟨tg, iter, ifs, 0⟩] scope pos) (some (.Name y py)) spos.line X.env = pure true) (hi : PI X tg iter (iIv C it)) (ok : BlkOk X.N X.env.scope scope own)
    (hg : ∀ (s : Shared) (H : Hp) (A : Addr) (cl : List (Str × Addr)) (fp : List Addr) (H0 : Hp), PG (X.blk s H scope (compEnvC scope cl A X.env) fp) tg (tGt (C.with H0) (own.map (·.2)) g))
    (ht : ∀ (s : Shared) (H : Hp) (A : Addr) (cl : List (Str × Addr)) (fp : List Addr) (H0 : Hp), PTs (X.blk s H scope (compEnvC scope cl A X.env) fp) ifs (tBv (C.with H0) tt))
    (hk : ∀ (s : Shared) (H : Hp) (A : Addr) (cl : List (Str × Addr)) (fp : List Addr) (H0 : Hp), PE (X.blk s H scope (compEnvC scope cl A X.env) fp) kx (tEv (C.with H0) fk))
    (he : ∀ (s : Shared) (H : Hp) (A : Addr) (cl : List (Str × Addr)) (fp : List Addr) (H0 : Hp), PE (X.blk s H scope (compEnvC scope cl A X.env) fp) vx (tEv (C.with H0) fv)) (hs : ∀ x, foldedSetIterable iter X.env x = pure x := by intro _; rfl) :
    PS X (.Assign [.Name y py] (.DictComp kx vx [⟨tg, iter, ifs, 0⟩] scope pos) spos) (tSv C (svSet i (evDc it g tt fk fv (own.map (·.2))))) := by
  refine ⟨fun pins s σ H Dd I h0 => ?_⟩
  have h := dc_imp (svsetd_imp h0)
  rw [exec_Assign_Name_used _ _ _ _ hsw]
  refine wpAny_bind (wpAny_standAt (wpAny_bind ?_))
  show wpAny _ X.A (do let _ ← comprehension (.DictComp kx vx [⟨tg, iter, ifs, 0⟩] scope pos) scope X.env (firstIterPos [⟨tg, iter, ifs, 0⟩] pos) newDict false (eval iter X.env) (some (assign (.Name y py) X.env))) _ _ s
  refine wpAny_bind (thn (dc_core (Qf := fun _ s' => SP X pins Dd .next s') hc hN I hi ok (fun s H A cl fp => pg_u (hg s H A cl fp)) (fun s H A cl fp => pts_u (ht s H A cl fp)) (fun s H A cl fp => pe_u fun H0 => pe_give (hk s H A cl fp H0)) (fun s H A cl fp => pe_u fun H0 => pe_give (he s H A cl fp H0)) hs h
    fun L Ca s' m H' I' q hn f => ?_) fun _ s' hq => wpAny_pure (wpAny_pure hq))
  show wpAny _ _ (assign (.Name y py) X.env (.ref L)) _ _ _
  refine wpAny_assign_Name (store_ok2 (v := V.ref L) I' hN hy (.inl hyl) rfl (fun s2 I2 ⟨a, sb, ha⟩ => ?_) (.inr hyl))
  obtain ⟨f0, f1, f2, f3, f4, f5⟩ := f
  have ne : Ca ≠ a := ha.elim (fun z => z ▸ f1) fun z e => f4 y a z e.symm
  exact ⟨m, hn.sameBut sb ne, fun h3 sb3 => ⟨_, H', I2.turned (t' := s2.toks) (fun b o hb e => (sb3.2 b hb).trans e) f0 f1 f3 f4 f5, q⟩⟩
end

/-! ### {k: v, ..} -/
abbrev PVs := Rho → Res (List (Key × D) × Rho)
def dvNil : PVs := fun ρ => .ok ([], ρ)
def dvCons (fk fv : EV) (r : PVs) : PVs := fun ρ => do
  let (x, ρ1) ← given fk ρ
  let (y, ρ2) ← given fv ρ1
  let k ← Res.of (dKey x)
  let (kvs, ρ3) ← r ρ2
  pure ((k, y) :: kvs, ρ3)
def evDisp (r : PVs) : EV := fun ρ => do
  let (kvs, ρ1) ← r ρ
  pure (.tmp (.dct (mergeD [] kvs)), ρ1)
/-- the pairs of a display -/
def DPs (X : Cx) (C : Ct) (pos : Pos) (keys : List (Option Expr)) (values : List Expr) (r : PVs) : Prop := ∃ trs, PPs X pos keys values trs ∧ keys.length = values.length ∧ ∀ (H0 : Hp) (σ : L2.St) (H : Hp) (ρ : Rho) (kvs : List (Key × D)) (ρ' : Rho) (Q : List (V × V) → Hp → Prop),
  EnvR (C.with H0) σ H ρ → r ρ = .ok (kvs, ρ') → (∀ (ws : List (Key × V)) H', Ext H H' → EnvR (C.with H0) σ H' ρ' → RepK C.G H' ws kvs → ws.length = keys.length → Q (ws.map fun kv => (kV kv.1, kv.2)) H') → tPairs trs σ H Q
section
variable {X : Cx} {C : Ct} {σ : L2.St} {H H' : Hp} {ρ ρ' : Rho} {a b c e : Expr} {f fa fb : EV} {pos p : Pos} {keys : List (Option Expr)} {values : List Expr} {r : PVs}
theorem dps_nil : DPs X C pos [] [] dvNil := ⟨[], pps_nil, rfl, fun H0 σ H ρ kvs ρ' Q R e k => by
  cases e
  exact k [] H Ext.refl R .nil rfl⟩
theorem dps_cons (ha : ∀ H0, PE X a (tEv (C.with H0) fa)) (hb : ∀ H0, PE X b (tEv (C.with H0) fb)) (hr : DPs X C pos keys values r) : DPs X C pos (some a :: keys) (b :: values) (dvCons fa fb r) := by
  obtain ⟨trs, h1, h2, h3⟩ := hr
  refine ⟨(uGiven C fa, uGiven C fb) :: trs, pps_cons (pe_u fun H0 => pe_give (ha H0)) (pe_u fun H0 => pe_give (hb H0)) h1, by simp [h2], fun H0 σ H ρ kvs ρ' Q R e k => ?_⟩
  obtain ⟨⟨x, ρ1⟩, e1, ea⟩ := Res.bind_ok e
  obtain ⟨⟨y, ρ2⟩, e2, eb⟩ := Res.bind_ok ea
  obtain ⟨key, e3, ec⟩ := Res.bind_ok eb
  obtain ⟨⟨kvs', ρ3⟩, e4, ed⟩ := Res.bind_ok ec
  cases Res.pure_ok ed
  refine ⟨H0, ρ, .val x, ρ1, R, given_ok e1, fun v H1 x1 R1 r1 => ⟨H0, ρ1, .val y, ρ2, R1, given_ok e2, fun w H2 x2 R2 r2 => ?_⟩⟩
  refine h3 H0 σ H2 ρ2 kvs' _ _ R2 e4 fun ws H3 x3 R3 r3 l3 => ?_
  have ky : v = kV key := rep_kD (G := C.G) (H := H1) (k := key) (.inl (dKey_some (Res.of_ok e3) ▸ r1))
  subst ky
  exact k ((key, w) :: ws) H3 ((x1.trans x2).trans x3) R3 (.cons (Rep.ext x3 r2) r3) (by simp [l3])
theorem pe_evDisp (h : DPs X C pos keys values r) (hall : keys.all (·.isSome) = true) (h0 : keys ≠ []) (h15 : keys.length ≤ 15) : PE X (.Dict keys values pos) (tEv C (evDisp r)) := by
  obtain ⟨trs, h1, h2, h3⟩ := h
  refine pe_imp (pe_disp h1 hall h2 h0 h15) fun σ H Q q => ?_
  obtain ⟨ρ, h, ρ', R, ev, k⟩ := q
  obtain ⟨⟨kvs, ρ1⟩, e1, ea⟩ := Res.bind_ok ev
  cases Res.pure_ok ea
  intro p hp
  have nl := R.notLent hp
  have z0 := R.fresh hp
  have g : Grow H (upd H p (.dK [])) := Grow.upd hp
  have R1 : EnvR (C.hold p (.dK [])) σ (upd H p (.dK [])) ρ := (R.grow g).holdOn upd_same nl fun i d q z => by
    obtain ⟨a, q1, q2, _⟩ := R.ow i d q
    rw [z] at q1
    cases q1
    obtain ⟨w, q3⟩ := q2.there
    rw [hp] at q3; cases q3
  refine h3 _ σ _ ρ kvs _ _ R1 e1 fun ws H2 x2 R2 r2 l2 => ?_
  have hp2 := R2.held nl
  refine ⟨hp2, ws, rfl, by omega, ?_⟩
  have xp := ext_putK (ys := mergeK [] ws) hp2
  have R3 := (R2.rehold nl xp).holdOff z0
  exact k _ _ ((g.ext.trans x2).trans xp) R3 ⟨p, rfl, .dK upd_same ((repK_merge r2 .nil).ext xp), z0, (R2.rehold nl xp).holdApart nl⟩
end
end Ft
set_option Elab.async false
set_option linter.all false
set_option maxRecDepth 100000
set_option maxHeartbeats 2000000
/-! FtQ: {**a, **b}, {**a, k: v}. -/
namespace Ft
open PySem PySem.Spec PySem.Calls PyProof.Rows L2

section
variable {prog : Program} {w : World} {K : Type} [DecidableEq K] {knd : KeyKind prog w K} {A : Around} {E : Value → Shared → Prop} {s : Shared}
/-- one key put -/
theorem put_pairs {d : Addr} {kvs : List (K × Value)} {k : K} {key v : Value} {Q : Unit → Shared → Prop} (hkey : knd.is k key = true) (hm : s.heap.DictOf knd d kvs) (hz : kvs.length ≤ sizeLine)
    (hQ : ∀ h', h'.DictOf knd d (stored kvs k v) → Heap.SameBut d s.heap h' → Q () { s with heap := h' }) : wpAny (model prog w) A (dictPut d (knd.hash k) key v) Q E s := by
  obtain ⟨o, es, ep, ho, hc, hd, hk, hp, hn⟩ := hm
  have hes : es.size ≤ sizeLine := by
    have e1 := hp.length
    rw [Array.length_toList] at e1
    omega
  have hidx : (es.findIdx? fun e => knd.is k e.key) = kvs.findIdx? fun kv => decide (kv.1 = k) := by
    rw [← hp.findIdx k]
    cases es with
    | mk l => simp
  unfold dictPut
  refine wpAny_bind (wpAny_dictFind_of hkey ho hd hk ?_)
  cases hi : es.findIdx? fun e => knd.is k e.key with
  | some i =>
    have hl : (es.toList.findIdx? fun e => knd.is k e.key) = some i := by
      rw [← hi]
      cases es with
      | mk l => simp
    refine wpAny_updateDict ho hd (hQ _ ⟨_, _, ep, Heap.get?_update_self _ ho (Obj.isFreed_of_dict (Obj.data_mapDict hd _)), hc.mapDict _, Obj.data_mapDict hd _, hk.modify _ _, ?_, ?_⟩ (Heap.SameBut.update ..))
    · rw [stored, if_pos (any_of_findIdx_some (hidx ▸ hi))]
      have q := hp.modify hn hl v
      cases es with
      | mk l => simpa using q
    · rw [stored, if_pos (any_of_findIdx_some (hidx ▸ hi)), keys_map_store]
      exact hn
  | none =>
    have hnot : k ∉ kvs.map (·.1) := not_mem_of_findIdx_none (hidx ▸ hi)
    have hany : ¬ (kvs.any fun kv => decide (kv.1 = k)) = true := fun z => by
      obtain ⟨kv, hkv, he⟩ := List.any_eq_true.mp z
      exact hnot (List.mem_map.mpr ⟨kv, hkv, of_decide_eq_true he⟩)
    refine wpAny_updateDictKeys (hz := hes) ho hd (hQ _ ⟨_, _, ep + 1, Heap.get?_update_self _ ho (Obj.isFreed_of_dict (Obj.data_mapDictKeys hd _)), hc.mapDictKeys _, Obj.data_mapDictKeys hd _, hk.push hkey _, ?_, ?_⟩ (Heap.SameBut.update ..))
    · rw [stored, if_neg hany]
      have q := hp.append hkey (knd.hash k) v
      cases es with
      | mk l => simpa using q
    · rw [stored, if_neg hany, List.map_append, List.nodup_append]
      refine ⟨hn, by simp, fun a ha b hb => ?_⟩
      simp only [List.map_cons, List.map_nil, List.mem_singleton] at hb
      subst hb
      exact fun e => hnot (e ▸ ha)
end
section
variable {prog : Program} {w : World} {A : Around} {E : Value → Shared → Prop} {s : Shared}
theorem merge_pairs {d o : Addr} {kvs more : List (Key × Value)} {Q : Unit → Shared → Prop} (hdo : d ≠ o) (hoS : (o == sysModules) = false)
    (hd : s.heap.DictOf (mixKind prog w) d kvs) (ho : s.heap.DictOf (mixKind prog w) o more) (hz : kvs.length + more.length ≤ sizeLine)
    (hQ : ∀ h', h'.DictOf (mixKind prog w) d (merged kvs more) → h'.DictOf (mixKind prog w) o more → Heap.SameBut d s.heap h' → Q () { s with heap := h' }) : wpAny (model prog w) A (mergeMapping d (.ref o) false) Q E s := by
  obtain ⟨od, esd, epd, hod, hcd, hdd, hkd, hpd, hnd⟩ := id hd
  obtain ⟨oo, eso, epo, hoo, hco, hdo', hko, hpo, hno⟩ := id ho
  have hlen : more.length = eso.size := by rw [← hpo.length]; simp
  unfold mergeMapping
  refine wpAny_bind (wpAny_bind (wpAny_typeOf ho.typeIs (wpAny_of_eq isSubtype_dict_dict ?_)))
  rw [if_pos rfl]
  refine wpAny_bind (wpAny_specialOf ho.typeIs F.slot_dict_iter.lookup ?_)
  refine wpAny_bind (wpAny_pure ?_)
  simp only [beq_self_eq_true]
  rw [if_neg (by rw [hoS]; exact Bool.false_ne_true)]
  refine wpAny_bind (wpAny_dictEntries hod hdd ?_)
  have tail : wpAny (model prog w) A (do
      let l ← dictEntries o
      let epoch ← dictEpoch o
      forIn (List.range l.size) PUnit.unit fun i (_ : PUnit) => (do
          let l' ← dictEntries o
          match l'[i]? with
            | some e => do
              holding [e.key, e.val] (dictPut d e.hash e.key e.val)
              let ep' ← dictEpoch o
              if (ep' != epoch) = true then do
                  (unsupported "dict.changed-during-merge" : Sem PUnit)
                  pure (ForInStep.yield PUnit.unit)
                else pure (ForInStep.yield PUnit.unit)
            | _ => do
              (unsupported "dict.changed-during-merge" : Sem PUnit)
              pure (ForInStep.yield PUnit.unit) : Sem (ForInStep PUnit))
      pure ()) Q E s := by
    refine wpAny_bind (wpAny_dictEntries hoo hdo' (wpAny_bind (wpAny_dictEpoch hoo hdo' (wpAny_bind ?_))))
    refine wpAny_forIn_list _
      (fun rest _ s' => ∃ h' i, s' = { s with heap := h' } ∧ rest = (List.range eso.size).drop i ∧ i ≤ eso.size ∧ h'.DictOf (mixKind prog w) d (merged kvs (more.take i)) ∧ h'.get? o = some oo ∧ Heap.SameBut d s.heap h')
      _ ?_ ?_ _ _ ⟨s.heap, 0, rfl, by simp, Nat.zero_le _, by simpa [merged] using hd, hoo, Heap.SameBut.refl _ _⟩
    · rintro x rest b s' ⟨h', i, rfl, hr, hi, hd', hoo', hs'⟩
      have hlt : i < eso.size := by
        rcases Nat.lt_or_ge i eso.size with h | h
        · exact h
        · rw [List.drop_eq_nil_of_le (by simpa using h)] at hr
          cases hr
      rw [List.drop_eq_getElem_cons (by simpa using hlt)] at hr
      simp only [List.getElem_range, List.cons.injEq] at hr
      obtain ⟨rfl, hrest⟩ := hr
      refine wpAny_bind (wpAny_dictEntries hoo' hdo' ?_)
      rw [Array.getElem?_eq_getElem hlt]
      obtain ⟨⟨k, v⟩, hkv⟩ : ∃ kv, more[x]? = some kv := ⟨_, List.getElem?_eq_getElem (by omega)⟩
      obtain ⟨hkey, hval⟩ := hpo.get? (e := eso[x]) (by simp [hlt]) hkv
      obtain ⟨k', hkey', hhash⟩ := hko eso[x] (Array.getElem_mem hlt)
      obtain rfl : k' = k := (mixKind prog w).inj _ _ _ hkey' hkey
      dsimp only
      rw [hhash, hval]
      have hmx : (merged kvs (more.take x)).length ≤ sizeLine := by
        have e1 := merged_length_le kvs (more.take x)
        have e2 : (more.take x).length ≤ more.length := by rw [List.length_take]; omega
        omega
      refine wpAny_bind (wpAny_holding (put_pairs hkey hd' hmx fun h'' hd'' hs'' => ?_))
      have hoo'' : h''.get? o = some oo := (hs''.2 o (Ne.symm hdo)).trans hoo'
      refine wpAny_bind (wpAny_dictEpoch hoo'' hdo' ?_)
      rw [if_neg (by simp)]
      exact wpAny_pure ⟨h'', x + 1, rfl, hrest, hlt, by rw [merged_take_succ kvs more x (k', v) hkv]; exact hd'', hoo'', hs'.trans hs''⟩
    · rintro b s' ⟨h', i, rfl, hr, hi, hd', hoo', hs'⟩
      have hin : i = eso.size := by
        rcases Nat.lt_or_ge i eso.size with h | h
        · rw [List.drop_eq_getElem_cons (by simpa using h)] at hr
          cases hr
        · omega
      refine wpAny_pure (hQ h' ?_ ⟨oo, eso, epo, hoo', hco, hdo', hko, hpo, hno⟩ hs')
      rw [hin, ← hlen, List.take_length] at hd'
      exact hd'
  split
  · refine wpAny_bind (wpAny_dictEntries hoo hdo' ?_)
    refine wpAny_bind ?_
    rw [← Array.forIn_toList]
    refine wpAny_forIn_list _ (fun rest _ s' => s' = s ∧ ∀ e ∈ rest, ∃ k, keyIs k e.key = true) _ ?_ ?_ _ _ ⟨rfl, fun e he => ?_⟩
    · rintro x rest b s' ⟨rfl, h⟩
      obtain ⟨k, hk⟩ := h x List.mem_cons_self
      have rs : ∀ e ∈ rest, ∃ k, keyIs k e.key = true := fun e he => h e (List.mem_cons_of_mem _ he)
      rcases keyIs_shape hk with ⟨i, t, _, e⟩ | ⟨y, t, _, e⟩
      · rw [e]
        exact wpAny_pure ⟨rfl, rs⟩
      · rw [e]
        exact wpAny_pure ⟨rfl, rs⟩
    · rintro b s' ⟨rfl, _⟩
      exact tail
    · obtain ⟨k, hk, _⟩ := hko e (Array.mem_toList_iff.mp he)
      exact ⟨k, hk⟩
  · exact tail

end

/-! ### the displays -/
/-- two dicts put together -/
def evMerge (fa fb : EV) : EV := fun ρ => do
  let (d1, ρ1) ← given fa ρ
  match d1 with
  | .dct kvs => (given fb ρ1).bind fun p => match p.1 with
    | .dct more => if kvs.length + more.length ≤ 1000000 then .ok (.tmp (.dct (mergeD (mergeD [] kvs) more)), p.2) else .bad
    | _ => .bad
  | _ => .bad
/-- a dict and one pair -/
def evMerge1 (fa fk fv : EV) : EV := fun ρ => do
  let (d1, ρ1) ← given fa ρ
  match d1 with
  | .dct kvs => if kvs.length ≤ 900000 then (given fk ρ1).bind fun p => (given fv p.2).bind fun q => (Res.of (dKey p.1)).bind fun k => .ok (.tmp (.dct (mergeD (mergeD [] kvs) [(k, q.1)])), q.2) else .bad
  | _ => .bad
section
variable {X : Cx} {C : Ct} {σ : L2.St} {H H' : Hp} {ρ ρ' : Rho} {a b c e k v : Expr} {f fa fb fk fv : EV} {pos p : Pos} {pins : List (Addr × Obj)} {s : Shared}
/-- a merge into a tracked dict -/
theorem merge_ok {D o : Addr} {kvs more : List (Key × V)} {E : Value → Shared → Prop} {Q : Unit → Shared → Prop} (I : Inv X pins σ H s) (hD : H D = some (.dK kvs)) (ho : Rd H o (.dK more)) (ne : D ≠ o) (hz : kvs.length + more.length ≤ sizeLine)
    (h : ∀ s', Inv X pins σ (upd H D (.dK (mergeK kvs more))) s' → Q () s') : wpAny (model X.prog X.w) X.A (mergeMapping D (.ref o) false) Q E s := by
  obtain ⟨z1, hd1, vs1, rel1, dd1⟩ := dk_of I.hok hD
  obtain ⟨z2, hd2, vs2, rel2, dd2⟩ := dk_rd I.hok ho
  have n1 := rel1.length
  have n2 := rel2.length
  refine merge_pairs ne hd2 dd1 dd2 (by omega) fun h' dd' _ hs => h _ ?_
  have hlen : (mergeK kvs more).length ≤ sizeLine := Nat.le_trans (length_mergeK more kvs) hz
  have he : ∃ q, h'.get? D = some q := let ⟨q, _, _, hq, _⟩ := dd'; ⟨q, hq⟩
  exact d_write (t' := s.toks) I (by rw [hD]; exact True.intro) hs he (dk_new hlen hd1 (KV.merge rel2 rel1) dd')
theorem frz_ne {D o : Addr} {u : HO} {w : HO} (hD : H D = some u) (nf : ∀ a b, u ≠ .frz a b) (ho : Fz H o w) : D ≠ o := fun z => by
  obtain ⟨ob, q⟩ := ho
  rw [← z, hD] at q
  cases q
  exact nf _ _ rfl
theorem pe_evMerge (ha : ∀ H0, PE X a (tEv (C.with H0) fa)) (hb : ∀ H0, PE X b (tEv (C.with H0) fb)) : PE X (.Dict [none, none] [a, b] pos) (tEv C (evMerge fa fb)) := by
  refine ⟨fun pins s σ H Q I q => ?_⟩
  obtain ⟨ρ, h, ρ', R, ev, kk⟩ := q
  obtain ⟨⟨d1, ρ1⟩, e1, ea⟩ := Res.bind_ok ev
  dsimp only at ea
  split at ea
  · rename_i kvs
    obtain ⟨⟨d2, ρ2⟩, e2, eb⟩ := Res.bind_ok ea
    dsimp only at eb
    split at eb
    · rename_i more
      split at eb
      · rename_i hz
        cases eb
        rw [arm_eval_Dict]
        refine wpAny_bind (wpAny_standAt ?_)
        show wpAny _ _ (dictDisplay [(none, do let x ← eval a X.env; standAt pos; pure x), (none, do let x ← eval b X.env; standAt pos; pure x)]) _ _ _
        unfold dictDisplay
        dsimp only
        simp only [List.forIn_cons, List.forIn_nil, bind_assoc, pure_bind, List.isEmpty_nil, if_true]
        refine wpAny_bind (wpAny_alloc ?_)
        have hn : H s.heap.objs.size = none := I.hok.fresh (Nat.le_refl _)
        have I1 := I.laid (a := s.heap.objs.size) (o := .dK []) (h' := s.heap.push { cls := .type "dict", data := .dict #[] }) (t' := s.toks) (fun _ _ q => Heap.get?_push_of_some _ q) (Nat.le_refl _) (dk_empty s.heap I.big)
        generalize hp : s.heap.objs.size = D at *
        have nl := R.notLent hn
        have z0 := R.fresh hn
        have g : Grow H (upd H D (.dK [])) := Grow.upd hn
        have R1 : EnvR (C.hold D (.dK [])) σ (upd H D (.dK [])) ρ := (R.grow g).holdOn upd_same nl fun i d q z => by
          obtain ⟨a, q1, q2, _⟩ := R.ow i d q
          rw [z] at q1
          cases q1
          obtain ⟨w, q3⟩ := q2.there
          rw [hn] at q3; cases q3
        refine wpAny_bind (wpAny_holding (wpAny_bind (thn ((pe_give (ha _)).run pins _ σ _ _ I1 ⟨ρ, .val (.dct kvs), ρ1, R1, given_ok e1, fun v H2 x2 R2 r2 => (⟨x2, R2, r2⟩ : Ext _ H2 ∧ EnvR (C.hold D (.dK [])) σ H2 ρ1 ∧ Rep C.G H2 v (.dct kvs))⟩) fun u s2 ⟨v, H2, I2, rv, x2, R2, r2⟩ => wpAny_bind (wpAny_standAt (wpAny_pure ?_)))))
        cases r2 with
        | @dK o1 ks1 _ hz1 rk1 =>
          cases rv
          have hD2 := R2.held nl
          have l1 : ks1.length = kvs.length := RepK.length rk1
          have hz' := mil hz
          refine wpAny_bind (wpAny_onRaise (wpAny_tryCatch (wpAny_onRaise (wpAny_holding (merge_ok I2 hD2 hz1.rd (frz_ne hD2 (fun _ _ z => by cases z) hz1) (by simp; omega) fun s3 I3 => ?_)))))
          have xp := ext_putK (ys := mergeK [] ks1) hD2
          have R3 := R2.rehold nl xp
          refine wpAny_bind (wpAny_holding (wpAny_bind (thn ((pe_give (hb _)).run pins _ σ _ _ I3 ⟨ρ1, .val (.dct more), _, R3, given_ok e2, fun v H4 x4 R4 r4 => (⟨x4, R4, r4⟩ : Ext _ H4 ∧ EnvR (C.hold D (.dK (mergeK [] ks1))) σ H4 _ ∧ Rep C.G H4 v (.dct more))⟩) fun u s4 ⟨v, H4, I4, rv, x4, R4, r4⟩ => wpAny_bind (wpAny_standAt (wpAny_pure ?_)))))
          cases r4 with
          | @dK o2 ks2 _ hz2 rk2 =>
            cases rv
            have hD4 := R4.held nl
            have l2 : ks2.length = more.length := RepK.length rk2
            have lm := length_mergeK ks1 []
            rw [List.length_nil] at lm
            refine wpAny_bind (wpAny_onRaise (wpAny_tryCatch (wpAny_onRaise (wpAny_holding (merge_ok I4 hD4 hz2.rd (frz_ne hD4 (fun _ _ z => by cases z) hz2) (by omega) fun s5 I5 => ?_)))))
            have xq := ext_putK (ys := mergeK (mergeK [] ks1) ks2) hD4
            have R5 := R4.rehold nl xq
            refine wpAny_pure ⟨.ref D, _, I5, rfl, kk _ _ ((((g.ext.trans x2).trans xp).trans x4).trans xq) (R5.holdOff z0) ⟨D, rfl, .dK upd_same ((repK_merge rk2 (repK_merge (rk1.ext (xp.trans x4)) .nil)).ext xq), z0, R5.holdApart nl⟩⟩
      · cases eb
    · cases eb
  · cases ea
end
end Ft
set_option Elab.async false
set_option linter.all false
set_option maxRecDepth 100000
set_option maxHeartbeats 4000000
/-! FtR: sets of keys that live within an expression: sorted(set(x)), len(set(x)). -/
namespace Ft
open PySem PySem.Spec PySem.Calls PyProof.Rows L2

def keyK (e : Int × Value) : Key := match e.2 with
  | .int k _ => .inl k
  | .str x _ => .inr x
  | _ => .inl 0
def GoodK (w : World) (e : Int × Value) : Prop := ∃ k, RelV (kV k) e.2 ∧ e.1 = keyH w k
theorem keyK_of {k : Key} {h : Int} {u : Value} (r : RelV (kV k) u) : keyK (h, u) = k := by
  cases k with
  | inl i => obtain ⟨t, rfl⟩ := r; rfl
  | inr x => obtain ⟨t, rfl⟩ := r; rfl
theorem key_scans {k : Key} {u : Value} (r : RelV (kV k) u) : u.scannable = true := by
  cases k with
  | inl i => obtain ⟨t, rfl⟩ := r; rfl
  | inr x => obtain ⟨t, rfl⟩ := r; rfl
/-- what is put into a set -/
def hasK (ks : List Key) (k : Key) : Bool := ks.any fun j => decide (j = k)
theorem hasK_iff {ks : List Key} {k : Key} : hasK ks k = true ↔ k ∈ ks := by simp [hasK]
def addK (ks : List Key) (k : Key) : List Key := if hasK ks k = true then ks else ks ++ [k]
def dedupK (ks : List Key) : List Key := ks.foldl addK []
/-- the set at a holds the keys ks -/
def SetL (w : World) (h : Heap) (a : Addr) (ks : List Key) : Prop := ∃ o es ep t, h.get? a = some o ∧ o.ExactSet ∧ o.data = .set es ep t ∧ (∀ e ∈ es.toList, GoodK w e) ∧ (es.toList.map keyK).Perm ks ∧ ks.Nodup ∧
  es.size < scanBound ∧ t.fits es.size = true ∧ Ris t.place.toList ∧ (w.params.followText "set-order" = true ∨ t.led = true)
section
variable {P : Program} {w : World} {h h' : Heap} {a : Addr} {ks : List Key} {A : Around} {E : Value → Shared → Prop} {s : Shared}
theorem SetL.at (R : SetL w h a ks) (k : ∀ o, h.get? a = some o → h'.get? a = some o) : SetL w h' a ks := by
  obtain ⟨o, es, ep, t, ho, r⟩ := R
  exact ⟨o, es, ep, t, k o ho, r⟩
theorem goodK_el {l : List (Int × Value)} (g : ∀ e ∈ l, GoodK w e) : ElemsOf (mixKind P w) l := fun e he => by
  obtain ⟨k, r, q⟩ := g e he
  exact ⟨⟨k, kV_is r, q⟩, key_scans r⟩
theorem goodK_mem {l : List (Int × Value)} (g : ∀ e ∈ l, GoodK w e) (k : Key) : k ∈ l.map keyK ↔ ∃ e ∈ l, (mixKind P w).is k e.2 = true := by
  rw [List.mem_map]
  refine exists_congr fun e => and_congr_right fun he => ?_
  obtain ⟨k0, r, _⟩ := g e he
  have e0 : keyK e = k0 := keyK_of (h := e.1) r
  rw [e0]
  refine ⟨fun z => z ▸ kV_is r, fun z => (mixKind P w).inj _ _ _ (kV_is r) z⟩
/-- the end of an add: the table is stored, laid anew when it is too full -/
theorem setL_tail {g : Bool → Sem Unit} (hg : ∀ (b : Bool) (s₁ : Shared) (Q' : Unit → Shared → Prop), Q' () s₁ → wpAny (model P w) A (g b) Q' E s₁) {o : Obj} {es es1 : Array (Int × Value)} {ep : Nat} {t t2 : SetTable} (ho : s.heap.get? a = some o) (hex : o.ExactSet)
    (hd : o.data = .set es ep t) {ks' : List Key} (g1 : ∀ e ∈ es1.toList, GoodK w e) (p1 : (es1.toList.map keyK).Perm ks') (nd : ks'.Nodup) (hb1 : es1.size < scanBound) (hf2 : t2.fits es1.size = true) (hr : Ris t2.place.toList)
    (hl : w.params.followText "set-order" = true ∨ t2.led = true) {wasDummy : Bool} {R : Option Bool → Shared → Prop} (hR : ∀ h', Heap.SameBut a s.heap h' → SetL w h' a ks' → R (some true) { s with heap := h' }) :
    wpAny (model P w) A (do
        storeSet a es1 t2
        if (!wasDummy && t2.tooFull) = true then do
            g (relayAll t2 es1 (SetTable.grown es1.size)).2.2
            storeSet a (relayAll t2 es1 (SetTable.grown es1.size)).1 (relayAll t2 es1 (SetTable.grown es1.size)).2.1
            pure (some true)
          else pure (some true)) R E s := by
  have one := store_at (es' := es1) (t' := t2) ho hd
  have sb := Heap.SameBut.update s.heap a (Obj.putSet es1 t2)
  refine wpAny_bind (wpAny_storeSet_of ho hd ?_ (fits_of_scanBound hb1))
  by_cases c : (!wasDummy && t2.tooFull) = true
  · rw [if_pos c]
    have pm := relayAll_perm t2 es1 (SetTable.grown es1.size)
    have f3 := relayAll_fits t2 es1 (SetTable.grown es1.size)
    have r3 := relayAll_ris t2 es1 (SetTable.grown es1.size)
    have l3 := relayAll_led t2 es1 (SetTable.grown es1.size)
    have sz : (relayAll t2 es1 (SetTable.grown es1.size)).1.size = es1.size := by
      have q := pm.length_eq
      simpa using q
    refine wpAny_bind (hg _ _ _ (wpAny_bind (wpAny_storeSet_of one rfl ?_ (fits_of_scanBound (by omega)))))
    have two := store_at (es' := (relayAll t2 es1 (SetTable.grown es1.size)).1) (t' := (relayAll t2 es1 (SetTable.grown es1.size)).2.1) one rfl
    exact wpAny_pure (hR _ (sb.trans (Heap.SameBut.update _ a _)) ⟨_, _, _, _, two, hex, rfl, fun e he => g1 e (pm.mem_iff.mp he), (pm.map keyK).trans p1, nd, by omega, f3, r3, hl.imp id fun z => by rw [l3]; exact z⟩)
  · rw [if_neg c]
    exact wpAny_pure (hR _ sb ⟨_, es1, _, t2, one, hex, rfl, g1, p1, nd, hb1, hf2, hr, hl⟩)
theorem setL_add {k : Key} {v : Value} {Q : Bool → Shared → Prop} (r : RelV (kV k) v) (R : SetL w s.heap a ks) (room : ks.length + 1 < scanBound) (hQ : ∀ b h', Heap.SameBut a s.heap h' → SetL w h' a (addK ks k) → Q b { s with heap := h' }) :
    wpAny (model P w) A (setAddHashed a v (keyH w k)) Q E s := by
  obtain ⟨o, es, ep, t, ho, hex, hd, g, pm, nd, hb, hf, hr, hl⟩ := R
  have hsz : es.size = ks.length := by
    have q := pm.length_eq
    simpa using q
  have hkey : (mixKind P w).is k v = true := kV_is r
  have hsc := key_scans r
  have hel : ElemsOf (mixKind P w) es.toList := goodK_el g
  unfold setAddHashed setAddHashedIn
  refine wpAny_holding (wpAny_bind (wpAny_setState_of ho hd hf ?_))
  dsimp only
  rw [byScan_of hsc hb hel]
  simp only [↓reduceIte]
  unfold setAddByScan
  refine wpAny_bind (wpAny_bind (wpAny_rule (wpAny_bind (wpAny_setScan_of hkey ho hd hf hel ?_))))
  cases hfi : List.findIdx? (fun e => (mixKind P w).is k e.2) es.toList with
  | some j =>
    obtain ⟨hj, pj, _⟩ := List.findIdx?_eq_some_iff_getElem.mp hfi
    have mem : k ∈ ks := pm.mem_iff.mp ((goodK_mem (P := P) g k).mpr ⟨_, List.getElem_mem hj, pj⟩)
    refine wpAny_pure (wpAny_pure (hQ _ s.heap (Heap.SameBut.refl a s.heap) ?_))
    unfold addK
    rw [if_pos (hasK_iff.mpr mem)]
    exact ⟨o, es, ep, t, ho, hex, hd, g, pm, nd, hb, hf, hr, hl⟩
  | none =>
    have hnk : k ∉ ks := fun z => by
      obtain ⟨e, he, q⟩ := (goodK_mem (P := P) g k).mp (pm.mem_iff.mpr z)
      have c := List.findIdx?_eq_none_iff.mp hfi e he
      rw [q] at c
      cases c
    have add : addK ks k = ks ++ [k] := if_neg fun z => hnk (hasK_iff.mp z)
    rw [add] at hQ
    have p1 := layNew_perm t es (keyH w k) v
    have f1 := layNew_fits t es (keyH w k) v
    have r1 := layNew_ris t es (keyH w k) v hr
    have l1 := layNew_led t es (keyH w k) v
    dsimp only
    show wpAny _ _ (do _) _ _ _
    rw [Array.toList_push] at p1
    have pk : ((layNew t es (keyH w k) v).1.toList.map keyK).Perm (ks ++ [k]) := by
      refine (p1.map keyK).trans ?_
      rw [List.map_append, List.map_cons, List.map_nil, keyK_of r]
      exact pm.append_right _
    have nd1 : (ks ++ [k]).Nodup := by
      rw [List.nodup_append]
      exact ⟨nd, by simp, fun x hx y hy z => hnk (by rw [List.mem_singleton.mp hy] at z; exact z ▸ hx)⟩
    have g1 : ∀ e ∈ (layNew t es (keyH w k) v).1.toList, GoodK w e := fun e he => by
      rcases List.mem_append.mp (p1.mem_iff.mp he) with z | z
      · exact g e z
      · rw [List.mem_singleton.mp z]
        exact ⟨k, r, rfl⟩
    have sz : (layNew t es (keyH w k) v).1.size = ks.length + 1 := by
      have q := pk.length_eq
      simpa using q
    have b1 : (layNew t es (keyH w k) v).1.size < scanBound := by omega
    have led : w.params.followText "set-order" = true ∨ (layNew t es (keyH w k) v).2.1.led = true := hl.imp id fun z => by rw [l1]; exact z
    generalize hZ : layNew t es (keyH w k) v = Z at *
    obtain ⟨es1, t1, wasDummy, gave⟩ := Z
    dsimp only at pk p1 f1 r1 l1 g1 sz b1 led ⊢
    have free : ∀ (b : Bool) (s₁ : Shared) (Q' : Unit → Shared → Prop), Q' () s₁ → wpAny (model P w) A (match b with | true => rule "set.scan.the-table-gave-way" | false => pure ()) Q' E s₁ := fun b s₁ Q' q => by
      cases b with
      | true => exact wpAny_rule q
      | false => exact wpAny_pure q
    have fin : ∀ h', Heap.SameBut a s.heap h' → SetL w h' a (ks ++ [k]) → Q true { s with heap := h' } := fun h' sb q => hQ true h' sb q
    refine wpAny_bind (free _ _ _ ?_)
    by_cases hpl : t1.plain = true
    · rw [if_pos hpl]
      refine wpAny_bind ?_
      rw [hashByValue_scannable 8 hsc]
      refine wpAny_pure ?_
      refine setL_tail ?_ ho hex hd g1 pk nd1 b1 ?_ ?_ ?_ ?_
      · exact fun b s₁ Q' q => free b s₁ Q' q
      · first | (split <;> first | exact f1 | exact SetTable.fits_plain_off f1) | exact f1
      · first | (split <;> exact r1) | exact r1
      · first | (split <;> exact led) | exact led
      · intro h' sb q
        exact wpAny_pure (fin h' sb q)
    · rw [if_neg hpl]
      refine wpAny_bind (wpAny_pure ?_)
      simp only [↓reduceIte]
      refine setL_tail ?_ ho hex hd g1 pk nd1 b1 f1 r1 led ?_
      · exact fun b s₁ Q' q => free b s₁ Q' q
      · intro h' sb q
        exact wpAny_pure (fin h' sb q)
/-- the items, one behind another -/
theorem setL_loop {I : Addr} {fp wr : List Addr} {G : Array GenState → Array GenState → Prop} {n : Nat} {Pv : Nat → Value → Prop} {St : Nat → Shared → Prop} {R : Result → Shared → Prop} (W : WalksS P w A.in1 I fp wr G n Pv St) (S : Addr) (hSf : S ∉ fp) (l : List Key) (hn : n = l.length)
    (hval : ∀ i v, Pv i v → ∃ k, l[i]? = some k ∧ RelV (kV k) v) (hb : l.length + 1 < scanBound) :
    ∀ (m i : Nat) (s : Shared), n - i = m → i ≤ n → St i s → SetL w s.heap S (dedupK (l.take i)) → (dedupK (l.take i)).length ≤ i →
      (∀ s', Moved (S :: wr) G s s' → SetL w s'.heap S (dedupK l) → R (.ok (.ret .none)) s') → codeAny (model P w) A (.builtin "set.update.loop" ⟨[.ref S, .ref I], []⟩) R s := by
  have hSw : S ∉ wr := fun z => hSf (W.sub _ z)
  have hsub : ∀ b ∈ wr, b ∈ S :: wr := fun b hb => List.mem_cons_of_mem _ hb
  intro m
  induction m with
  | zero =>
    intro i s hm hi hst hS hc hR
    obtain rfl : i = n := by omega
    refine codeAny_builtin F.entry_set_update_loop ?_
    rw [Around.under_plainId F.plain_set_update_loop _]
    show wpAny _ A.in1 (pyNext (.ref I) >>= _) _ _ s
    refine wpAny_bind (W.done s _ _ hst fun s' mv => ?_)
    show wpAny _ A.in1 (ret Value.none) _ _ s'
    rw [hn, List.take_length] at hS
    exact wpAny_pure (hR s' (mv.mono hsub) (hS.at fun o e => mv.heap S o hSw e))
  | succ m ih =>
    intro i s hm hi hst hS hc hR
    have hlt : i < n := by omega
    refine codeAny_builtin F.entry_set_update_loop ?_
    rw [Around.under_plainId F.plain_set_update_loop _]
    show wpAny _ A.in1 (pyNext (.ref I) >>= _) _ _ s
    refine wpAny_bind (W.item i s _ _ hlt hst fun v s' hP hst' mv => ?_)
    obtain ⟨k, hk, rk⟩ := hval i v hP
    have hS' : SetL w s'.heap S (dedupK (l.take i)) := hS.at fun o e => mv.heap S o hSw e
    have next : dedupK (l.take (i + 1)) = addK (dedupK (l.take i)) k := by
      unfold dedupK
      rw [List.take_add_one, hk, Option.toList_some, List.foldl_append]
      rfl
    have hc' : (dedupK (l.take (i + 1))).length ≤ i + 1 := by
      rw [next]
      unfold addK
      split
      · omega
      · rw [List.length_append]
        show _ + 1 ≤ _
        omega
    show wpAny _ A.in1 (holding [v] (setAdd S v) >>= _) _ _ s'
    refine wpAny_bind (wpAny_holding ?_)
    unfold setAdd
    refine wpAny_holding (wpAny_bind ((mixKind P w).pyHash (k := k) (kV_is rk) ?_))
    refine setL_add (s := { s' with toks := s'.toks + 1 }) rk hS' (by omega) fun b h' hsb hS2 => ?_
    refine wpAny_pure ⟨plainId_quiet F.plain_set_update_loop _, ih (i + 1) _ (by omega) hlt (W.frame _ s' _ _ hst' (Nat.le_succ _) fun b hb o e => ?_) (next ▸ hS2) hc' fun s'' mv2 hS3 => ?_⟩
    · exact (hsb.2 b fun z => hSf (z ▸ hb)).trans e
    · refine hR s'' (Moved.trans W.gtrans ((mv.mono hsub).then_heap (Nat.le_succ _) fun b o hb e => ?_) mv2) hS3
      exact (hsb.2 b fun z => hb (by rw [z]; exact List.mem_cons_self)).trans e
end
end Ft
set_option Elab.async false
set_option linter.all false
set_option maxRecDepth 100000
set_option maxHeartbeats 8000000
/-! FtS: the call set(x). -/
namespace Ft
open PySem PySem.Spec PySem.Calls PyProof.Rows L2
section
variable {P : Program} {w : World} {A : Around} {E : Value → Shared → Prop} {s : Shared}
/-- a set just made -/
abbrev freshO (w : World) : Obj := { cls := .type "set", dict := none, data := .set #[] 0 (.fresh 0 0 (!w.params.followText "set-order")) }
abbrev fresh (w : World) (h : Heap) : Heap := h.push (freshO w)
theorem setL_empty {h : Heap} {a : Addr} (ho : h.get? a = some (freshO w)) : SetL w h a [] :=
  ⟨_, #[], 0, _, ho, ⟨rfl, rfl, rfl⟩, rfl, (fun e he => by simp at he), .nil, List.nodup_nil, (by decide), (by rfl), List.Pairwise.nil, by
    show _ ∨ (!w.params.followText "set-order") = true
    cases w.params.followText "set-order" <;> simp⟩

set_option maxRecDepth 100000 in
set_option maxHeartbeats 8000000 in
/-- set(x) of a list or a tuple: T its type, St how its iterator stands -/
theorem set_of {T : String} {St : Addr → Nat → Heap → Prop} {itO : Obj} {l : Addr} {items : Array Value} (ks : List Key) {Q : Value → Shared → Prop} (hh : A.handled = none) (hsls : isSubtype (.type T) (.type "set") = pure false) (hslf : isSubtype (.type T) (.type "frozenset") = pure false) (hne : (Value.type T == Value.type "dict") = false) {od0 : Option Addr} {osl0 : Array (Option Value)} {nl : Nat} (hol : s.heap.get? l = some { cls := .type T, dict := od0, data := .seq items nl, slots := osl0 })
    (hW : ∀ (A' : Around) (I : Addr), A'.handled = none → l ≠ I → Walks P w A' I [I, l] [I] items.size (fun i v => items[i]? = some v) (St I))
    (hit0 : ∀ (A' : Around) (E' : Value → Shared → Prop) (s' : Shared) (Q' : Value → Shared → Prop), s'.heap.get? l = some { cls := .type T, dict := od0, data := .seq items nl, slots := osl0 } → (St s'.heap.objs.size 0 (s'.heap.push itO) → Q' (.ref s'.heap.objs.size) { s' with heap := s'.heap.push itO }) → wpAny (model P w) A' (pyIter (.ref l)) Q' E' s')
    (hit : ∀ (i : Nat) (v : Value), items[i]? = some v → ∃ k, ks[i]? = some k ∧ RelV (kV k) v) (hn : items.size = ks.length) (hb : ks.length + 1 < scanBound)
    (h : ∀ (h' : Heap) (tk : Nat), SetL w h' s.heap.objs.size (dedupK ks) → (∀ b o, s.heap.get? b = some o → h'.get? b = some o) → Q (.ref s.heap.objs.size) { s with heap := h', toks := tk }) :
    wpAny (model P w) A (call (.type "set") [.ref l]) Q E s := by
  obtain ⟨c, tl, hmro⟩ := F.called_set.mro
  have hmade := F.called_set.made
  have hsub := F.called_set.sub
  refine wpAny_call (codeAny_of_tree ?_)
  show wpAny _ _ (callAny (.type "set") _) _ _ _
  refine wpAny_pure ⟨Code.quiet_builtin _ (by decide +kernel), codeAny_builtin F.entry_type_call ?_⟩
  rw [Around.under_plain (weight_type_call_type "set" [.ref l] []) rfl]
  have h1 := F.called_set.notType
  have h2 := F.called_set.canCreate
  have hct := F.typeCall_set_1 (.ref l)
  repeat (any_goals (first | assumption | wp_step))
  refine codeAny_mono (code_set_led1 (.ref l) (E := E) (Q₁ := fun obj s₁ => obj = .ref s.heap.objs.size ∧ s₁ = { s with heap := fresh w s.heap }) ⟨rfl, rfl⟩) fun r s₁ hr => ?_
  cases r with
  | error e => exact hr
  | ok fl =>
    cases fl with
    | ret obj =>
      obtain ⟨rfl, rfl⟩ := hr
      have hS : (fresh w s.heap).get? s.heap.objs.size = some (freshO w) := Heap.get?_push_size _ rfl
      have hTy : Shared.TypeIs { s with heap := fresh w s.heap } (.ref s.heap.objs.size) "set" := ⟨_, hS, rfl⟩
      have hli := F.called_set.init.lookup
      have hbi := F.called_set.init.bind (.ref s.heap.objs.size)
      repeat (any_goals (first | assumption | wp_step))
      refine codeAny_mono (codeAny_call_builtin (R := wants (fun r s₂ => r = .none ∧ ∃ h' tk, s₂ = { s with heap := h', toks := tk } ∧ SetL w h' s.heap.objs.size (dedupK ks) ∧ ∀ b o, s.heap.get? b = some o → h'.get? b = some o) E) F.called_set.init.plain F.entry_set_init (check_set_init_1 hTy ?_)) fun r₂ s₂ hr₂ => ?_
      · have hol' : (fresh w s.heap).get? l = some { cls := .type T, dict := od0, data := .seq items nl, slots := osl0 } := Heap.get?_push_of_some _ hol
        unfold Builtin.«set.__init__» noKeywords Builtin.Frozenset.updateFrom
        generalize hPI : pyIter = PI
        wp_walk
        subst hPI
        refine hit0 _ _ _ _ hol' fun hst => wpAny_bind (wpAny_runValue ?_)
        have hlS : l < s.heap.objs.size := Heap.lt_size hol
        have hh3 : A.in1.in1.in1.handled = none := by simp [hh]
        have hz1 : (fresh w s.heap).objs.size = s.heap.objs.size + 1 := Heap.size_push ..
        have hneI : l ≠ (fresh w s.heap).objs.size := by rw [hz1]; exact Nat.ne_of_lt (Nat.lt_succ_of_lt hlS)
        have hSf : s.heap.objs.size ∉ [(fresh w s.heap).objs.size, l] := by
          simp only [List.mem_cons, List.not_mem_nil, or_false, not_or]
          exact ⟨by rw [hz1]; exact Nat.ne_of_lt (Nat.lt_succ_self _), Nat.ne_of_gt hlS⟩
        refine setL_loop ((hW _ _ hh3 hneI).toS) s.heap.objs.size hSf ks hn hit hb (items.size - 0) 0 _ (by omega) (Nat.zero_le _) hst ?hS0 (Nat.le_refl 0) ?hR
        case hS0 => exact setL_empty (Heap.get?_push_of_some _ hS)
        case hR =>
          intro s' hm hS'
          obtain ⟨h', g2, d', tk', os'⟩ := s'
          obtain rfl : g2 = s.gens := hm.gens
          obtain rfl : d' = s.drawn := hm.drawn
          obtain rfl : os' = s.os := hm.os
          refine wpAny_pure ?_
          show wpAny _ _ (ret Value.none) _ _ _
          refine wpAny_pure ⟨rfl, h', tk', rfl, hS', fun b o e => ?_⟩
          have hb0 : b < s.heap.objs.size := Heap.lt_size e
          refine hm.heap b o ?_ (Heap.get?_push_of_some _ (Heap.get?_push_of_some _ e))
          simp only [List.mem_cons, List.not_mem_nil, or_false, not_or]
          exact ⟨Nat.ne_of_lt hb0, by rw [hz1]; exact Nat.ne_of_lt (Nat.lt_succ_of_lt hb0)⟩
      · cases r₂ with
        | error e => exact hr₂
        | ok fl₂ =>
          cases fl₂ with
          | ret r =>
            obtain ⟨rfl, h', tk, rfl, hS', hk'⟩ := hr₂
            repeat (any_goals (first | assumption | wp_step))
            exact h _ _ hS' hk'
          | _ => exact hr₂.elim
    | _ => exact hr.elim
end
end Ft
set_option Elab.async false
set_option linter.all false
set_option maxRecDepth 100000
set_option maxHeartbeats 2000000
/-! FtT: len(set(x)), sorted(set(x)). -/
namespace Ft
open PySem PySem.Spec PySem.Calls PyProof.Rows L2 PySem.W

def setItems : D → Option (List Key)
  | .lst ds => dKeys ds
  | .tup ds => dKeys ds
  | _ => none
def evLenSet (f : EV) : EV := fun ρ => do
  let (h, ρ1) ← settle f ρ
  let d ← Res.of (look ρ1 h)
  let ks ← Res.of (setItems d)
  if ks.length ≤ 4000 then pure (.val (.int (dedupK ks).length), ρ1) else .bad
def evSortSet (f : EV) : EV := fun ρ => do
  let (h, ρ1) ← settle f ρ
  let d ← Res.of (look ρ1 h)
  let ks ← Res.of (setItems d)
  if ks.length ≤ 4000 then (Res.of (sortD ((dedupK ks).map kD))).bind fun r => .ok (r, ρ1) else .bad
theorem dedup_length : ∀ (ks acc : List Key), (ks.foldl addK acc).length ≤ acc.length + ks.length
  | [], acc => by simp
  | k :: ks, acc => by
    have h := dedup_length ks (addK acc k)
    have h2 : (addK acc k).length ≤ acc.length + 1 := by
      unfold addK
      split
      · omega
      · simp
    simp only [List.foldl_cons, List.length_cons]
    omega
theorem paired_at {α β : Type} {R : α → β → Prop} {l : List α} {r : List β} (p : Paired R l r) : ∀ (i : Nat) (w : β), r[i]? = some w → ∃ k, l[i]? = some k ∧ R k w := by
  induction p with
  | nil => intro i w e; simp at e
  | @cons a b l r q _ ih =>
    intro i w e
    cases i with
    | zero => simp at e; subst e; exact ⟨a, rfl, q⟩
    | succ i => simpa using ih i w (by simpa using e)
section
variable {X : Cx} {C : Ct} {σ : L2.St} {H H' : Hp} {ρ ρ' : Rho} {a : Expr} {f : EV} {pos p p2 q : Pos} {pins : List (Addr × Obj)} {s : Shared}
/-- set(x) -/
theorem set_run (hc : X.calm = true) (hK : X.K = C.G.K) (I : Inv X pins σ H s) {v : V} {u : Value} {d : D} {ks : List Key} (t : TR C.G H v d) (r : RelV v u) (e : setItems d = some ks) (hl : ks.length ≤ 4000) {Q : Value → Shared → Prop} {E : Value → Shared → Prop}
    (h : ∀ h' tk, SetL X.w h' s.heap.objs.size (dedupK ks) → (∀ b o, s.heap.get? b = some o → h'.get? b = some o) → Q (.ref s.heap.objs.size) { s with heap := h', toks := tk }) : wpAny (model X.prog X.w) X.A (call (.type "set") [u]) Q E s := by
  have sb : ks.length + 1 < scanBound := by
    have : scanBound = 4096 := rfl
    omega
  have items : ∀ {vs : List V} {its : List Value} {ds : List D}, Vals vs its → Reps C.G H vs ds → dKeys ds = some ks → (∀ (i : Nat) (w : Value), its.toArray[i]? = some w → ∃ k, ks[i]? = some k ∧ RelV (kV k) w) ∧ its.toArray.size = ks.length := fun {vs its ds} rv rr ek => by
    have ed := dKeys_some ek
    subst ed
    have go : ∀ {vs : List V} {its : List Value} {ks : List Key}, Vals vs its → Reps C.G H vs (ks.map kD) → Paired (fun (k : Key) (w : Value) => RelV (kV k) w) ks its := fun {vs its ks} rv rr => by
      induction ks generalizing vs its with
      | nil => cases rr; cases rv; exact .nil
      | cons k ks ih =>
        cases rr with
        | cons q t =>
          cases rv with
          | cons z y =>
            have e := rep_kD (G := C.G) (H := H) (k := k) (.inl q)
            exact .cons (e ▸ z) (ih y t)
    have pr := go rv rr
    have len : ks.length = its.length := Paired.length pr
    exact ⟨fun i w ew => paired_at pr i w (by simpa using ew), by rw [List.size_toArray]; exact len.symm⟩
  cases d with
  | lst ds =>
    obtain ⟨x, vs, rfl, hx, rr⟩ := t.inv_lst
    cases r
    obtain ⟨z, its, n, rv, hl2, e2⟩ := rdl I hx
    obtain ⟨i1, i2⟩ := items rv rr e
    exact set_of (T := "list") (St := fun I i h => h.IsListIter I x i ∧ h.IsList x its.toArray) ks (I.ok.hd hc) F.sub_list_set F.sub_list_frozenset (by decide) e2 (fun A' J hh ne => Walks.list hh J x ne _) (fun A' E' s' Q' hg hq => wpAny_pyIter_list (items := its.toArray) ⟨_, hg, rfl, n, rfl⟩ (hq ⟨⟨_, Heap.get?_push_size _ rfl, rfl, rfl⟩, ⟨_, Heap.get?_push_of_some _ hg, rfl, n, rfl⟩⟩)) i1 i2 sb h
  | tup ds =>
    obtain ⟨x, vs, rfl, hx, rr⟩ := t.inv_tup
    cases r
    obtain ⟨its, rv, ⟨o, ho, hcl, n, hd⟩, z⟩ := I.tuple (hK ▸ hx)
    obtain ⟨i1, i2⟩ := items rv rr e
    obtain ⟨oc, od, odt, osl⟩ := o
    simp only at hcl hd
    subst hcl hd
    exact set_of (T := "tuple") (St := fun I i h => h.IsTupleIter I x i ∧ h.IsTuple x its.toArray) ks (I.ok.hd hc) F.sub_tuple_set F.sub_tuple_frozenset (by decide) ho (fun A' J hh ne => Walks.tuple hh J x ne _) (fun A' E' s' Q' hg hq => wpAny_pyIter_tuple (items := its.toArray) ⟨_, hg, rfl, n, rfl⟩ (hq ⟨⟨_, Heap.get?_push_size _ rfl, rfl, rfl⟩, ⟨_, Heap.get?_push_of_some _ hg, rfl, n, rfl⟩⟩)) i1 i2 sb h
  | _ => cases e
theorem pe_evLenSet (hc : X.calm = true) (hK : X.K = C.G.K) (hg : Gl X "len") (hm : X.mg "len" = none) (hg2 : Gl X "set") (hm2 : X.mg "set" = none) (ha : PE X a (tEv C f)) (na : starEach [a] X.env = (false, eval a X.env) :: starEach [] X.env := by rfl) :
    PE X (.Call (.Name "len" p) [.Call (.Name "set" p2) [a] [] q] [] pos) (tEv C (evLenSet f)) := by
  refine ⟨fun pins s σ H Q I h => ?_⟩
  obtain ⟨ρ, h, ρ', R, ev, kk⟩ := h
  obtain ⟨⟨h1, ρ1⟩, e1, ea⟩ := Res.bind_ok ev
  obtain ⟨d, e2, eb⟩ := Res.bind_ok ea
  obtain ⟨ks, e3, ec⟩ := Res.bind_ok eb
  split at ec
  · rename_i hl
    cases Res.pure_ok ec
    refine Call_ (ld_blt I hg hm boot_len (PyProof.Rows.callWith_builtin1 (PyProof.Rows.args_cons ?_ rfl) rfl rfl))
    refine Call_ (ld_blt I hg2 hm2 boot_set (PyProof.Rows.callWith_type1 (PyProof.Rows.args_cons (thn ((pe_settle ha).run pins s σ H (fun v H1 => Ext H H1 ∧ EnvR C σ H1 ρ' ∧ HR C σ H1 ρ' v h1) I ⟨ρ, h1, ρ', R, e1, fun v H1 x1 R1 r1 => ⟨x1, R1, r1⟩⟩) fun v s1 ⟨x, H1, I1, r1, x1, R1, hr⟩ => PyProof.Rows.args_nil ?_) na) na rfl))
    refine set_run hc hK I1 (HR.look R1 hr (Res.of_ok e2)) r1 (Res.of_ok e3) hl fun h' tk hS hk => PyProof.Rows.args_nil ?_
    obtain ⟨o, es, ep, t, ho, hex, hd, g, pm, nd, hb, hf, _⟩ := hS
    have sz : es.size = (dedupK ks).length := by
      have z := pm.length_eq
      simpa using z
    have I2 : Inv X pins σ H1 { s1 with heap := h', toks := tk } := I1.kept hk
    exact call_len_set ho hex hd hf (by have : scanBound = 4096 := rfl; have := line63; rw [sizeLine_eq] at *; omega) ⟨.int es.size, H1, I2.tok _, ⟨_, rfl⟩, sz ▸ kk _ H1 x1 R1 (.int _)⟩
  · cases ec
theorem reps_keys {G : Pg} (H : Hp) : ∀ ks : List Key, Reps G H (ks.map kV) (ks.map kD)
  | [] => .nil
  | .inl i :: ks => .cons (.int i) (reps_keys H ks)
  | .inr x :: ks => .cons (.str x) (reps_keys H ks)
theorem goodK_each {G : Pg} {w : World} {l : List (Int × Value)} (g : ∀ e ∈ l, GoodK w e) : EachIs (VRep G H) (l.map (·.2)) ((l.map keyK).map kD) := by
  induction l with
  | nil => exact .nil
  | cons e l ih =>
    obtain ⟨k, r, _⟩ := g e List.mem_cons_self
    have ek : keyK e = k := keyK_of (h := e.1) r
    refine .cons ⟨kV k, r, ?_⟩ (ih fun x hx => g x (List.mem_cons_of_mem _ hx))
    rw [ek]
    cases k with
    | inl i => exact .int i
    | inr x => exact .str x
/-- keys of one rank are one key -/
theorem key_rank {a b : Key} {c : D} (h1 : sameRank (dataLe false encD) c (kD a) = true) (h2 : sameRank (dataLe false encD) c (kD b) = true) : a = b := by
  have t : ∀ {x y : D}, sameRank (dataLe false encD) x y = true → keyToks (encD x) = keyToks (encD y) := fun {x y} h => by
    unfold sameRank dataLe sortLe at h
    simp only [cond_false, Bool.and_eq_true, Bool.not_eq_true'] at h
    exact lex_total _ _ h.2 h.1
  have e := (t h1).symm.trans (t h2)
  cases a with
  | inl i =>
    cases b with
    | inl j => simp [kD, encD, D.py, keyToks] at e; rw [e]
    | inr y => simp [kD, encD, D.py, keyToks] at e
  | inr x =>
    cases b with
    | inl j => simp [kD, encD, D.py, keyToks] at e
    | inr y =>
      simp only [kD, encD, D.py, keyToks, Option.getD_some, List.cons.injEq, Sum.inr.injEq, and_true] at e
      obtain ⟨x⟩ := x
      obtain ⟨y⟩ := y
      have : x = y := Array.ext' e
      rw [this]
theorem few_perm {α : Type} {l m : List α} (p : l.Perm m) (h : ∀ x ∈ l, ∀ y ∈ l, x = y) (nd : l.Nodup) : l = m := by
  cases l with
  | nil => exact (List.nil_perm.mp p).symm
  | cons x l =>
    have : l = [] := by
      cases l with
      | nil => rfl
      | cons y l =>
        have e := h x (by simp) y (by simp)
        rw [List.nodup_cons] at nd
        exact absurd (e ▸ List.mem_cons_self) nd.1
    subst this
    exact List.singleton_perm.mp p
theorem kD_inj {a b : Key} (h : kD a = kD b) : a = b := by
  cases a <;> cases b <;> simp [kD] at h <;> rw [h]
/-- the order in which they came does not matter -/
theorem sort_perm {ks ls : List Key} (p : ks.Perm ls) (nd : ks.Nodup) : (ks.map kD).mergeSort (dataLe false encD) = (ls.map kD).mergeSort (dataLe false encD) := by
  have T : TotalLe (dataLe false encD) := sortLe_total _ _ _
  refine sort_one T _ _ (sort_pairwise T _) (sort_pairwise T _) fun c => ?_
  rw [sort_stable T, sort_stable T]
  refine few_perm ((p.map kD).filter _) (fun x hx y hy => ?_) ?_
  · obtain ⟨hx1, hx2⟩ := List.mem_filter.mp hx
    obtain ⟨hy1, hy2⟩ := List.mem_filter.mp hy
    obtain ⟨a, _, rfl⟩ := List.mem_map.mp hx1
    obtain ⟨b, _, rfl⟩ := List.mem_map.mp hy1
    rw [key_rank hx2 hy2]
  · refine List.Pairwise.filter _ ?_
    rw [List.pairwise_map]
    exact nd.imp fun h e => h (kD_inj e)
theorem sortOk_perm {ds es : List D} (p : ds.Perm es) (h : sortOk ds = true) : sortOk es = true := by
  unfold sortOk alikeB at *
  simp only [Bool.and_eq_true, Bool.or_eq_true, List.all_eq_true] at *
  obtain ⟨⟨h1, h2⟩, h3⟩ := h
  have q : ∀ {x : PyData}, x ∈ ds.map encD ↔ x ∈ es.map encD := (p.map encD).mem_iff
  refine ⟨⟨fun x hx => h1 x (p.mem_iff.mpr hx), fun x hx y hy => h2 x (q.mpr hx) y (q.mpr hy)⟩, ?_⟩
  exact h3.imp (fun h x hx => h x (q.mpr hx)) (fun h x hx => h x (q.mpr hx))
theorem sorted_setL (hc : X.calm = true) (hK : X.K = C.G.K) (hu : X.A.units + 64 < cLine) (I : Inv X pins σ H s) {p : Addr} {ks : List Key} (S : SetL X.w s.heap p ks) (ok : sortOk (ks.map kD) = true) (hz : ks.length ≤ 4000) {Q : VK} {E : Value → Shared → Prop}
    (k : ∀ v H', Grow H H' → NR C.G H H' v (.tmp (.lst ((ks.map kD).mergeSort (dataLe false encD)))) → Q v H') : wpAny (model X.prog X.w) X.A (call (.builtin "sorted") [.ref p]) (EP X pins σ Q) E s := by
  obtain ⟨o, es, ep, t, ho, hex, hd, g, pm, nd, hb, hf, hri, hled⟩ := S
  refine call_function_entry kind_sorted plain_sorted entry_sorted (args_sorted1 _) ?_
  unfold Builtin.«sorted»
  refine wpAny_bind (m := checkCount "sorted" 1 1 _) (wpAny_pure ?_)
  refine wpAny_bind (collect_set (A := X.A.in1) (I.ok.hd hc) ⟨o, ho, hex.1, hd⟩ hf hb hri hled fun s1 vs k1 hz1 g1 o1 pv => ?_)
  have each : ∀ {l : List Value}, l.Perm (es.toList.map (·.2)) → ∃ js : List Key, js.Perm (es.toList.map keyK) ∧ EachIs (VRep C.G H) l (js.map kD) := fun {l} pl => by
    have key : ∀ u ∈ l, ∃ k, RelV (kV k) u ∧ keyK (0, u) = k := fun u hu => by
      obtain ⟨e, he, rfl⟩ := List.mem_map.mp (pl.mem_iff.mp hu)
      obtain ⟨k, r, _⟩ := g e he
      exact ⟨k, r, keyK_of r⟩
    refine ⟨l.map fun u => keyK (0, u), ?_, ?_⟩
    · have q := pl.map fun u => keyK (0, u)
      rw [List.map_map] at q
      exact q
    · clear pl pv
      induction l with
      | nil => exact .nil
      | cons u l ih =>
        obtain ⟨k, r, e⟩ := key u List.mem_cons_self
        refine .cons ⟨kV k, r, ?_⟩ (ih fun x hx => key x (List.mem_cons_of_mem _ hx))
        show Rep C.G H (kV k) (kD (keyK (0, u)))
        rw [e]
        cases k with
        | inl i => exact .int i
        | inr x => exact .str x
  obtain ⟨js, pj, ej⟩ := each pv
  have pk : js.Perm ks := pj.trans pm
  have ok' : sortOk (js.map kD) = true := sortOk_perm (pk.map kD).symm ok
  have hvl : vs.length = js.length := by have q := ej.length; simpa using q
  have hjl : js.length = ks.length := pk.length_eq
  obtain ⟨h1, gg, dr, tk, os⟩ := s1
  obtain rfl : gg = s.gens := g1
  obtain rfl : os = s.os := o1
  have I1 : Inv X pins σ H { s with heap := h1, drawn := dr, toks := tk } := I.call (g' := s.gens) (t' := tk) (d' := dr) (ch := []) (Un.kept k1) (I.hok.kept k1) I.bare fun b z => absurd z (by simp)
  refine wpAny_bind (wpAny_newList ?_ (by rw [hvl, hjl]; exact mil (by omega)))
  have hoL : (h1.push (seqObj "list" vs.toArray 0)).get? h1.objs.size = some (seqObj "list" vs.toArray 0) := Heap.get?_push_size _ rfl
  have er : EachIs (fun v b => ∃ as, Reads h1 v (encD b) as) vs (js.map kD) := each_reads hK I1 (fun d hd => (sortOk_py ok' hd).1) ej
  have er' : EachIs (fun v b => ∃ as, Reads (sortingHeap (h1.push (seqObj "list" vs.toArray 0)) h1.objs.size vs) v (encD b) as) vs (js.map kD) := er.mono fun _ _ ⟨as, r⟩ =>
    ⟨as, PyProof.Rows.Reads.keeps (fun b u q => sortingHeap_old (Nat.ne_of_lt (Heap.lt_size q)) (Heap.get?_push_of_some _ q)) r⟩
  have SA : SortsAt X.prog X.w X.A.in1.in1 { s with heap := sortingHeap (h1.push (seqObj "list" vs.toArray 0)) h1.objs.size vs, drawn := dr, toks := tk } (dataKind (sortingHeap (h1.push (seqObj "list" vs.toArray 0)) h1.objs.size vs) ((js.map kD).map encD)) vs :=
    SortsAt.data (s := { s with heap := sortingHeap (h1.push (seqObj "list" vs.toArray 0)) h1.objs.size vs, drawn := dr, toks := tk })
      (each_map (R := fun v d => ∃ as, Reads (sortingHeap (h1.push (seqObj "list" vs.toArray 0)) h1.objs.size vs) v d as) encD er') (sortOk_alike ok') (sortOk_kind ok') (bound_map fun d hd => by have := (sortOk_py ok' hd).2; show X.A.units + 2 + _ < _; omega)
  refine wpAny_bind (wpAny_holding (wpAny_call_entry slot_list_sort ⟨_, hoL, rfl⟩ entry_list_sort (list_sort_vals (s := { s with heap := h1.push (seqObj "list" vs.toArray 0), drawn := dr, toks := tk }) hoL SA (by rw [hvl, hjl]; exact mil (by omega)) ?_) (args_list_sort _)))
  refine ⟨_, rfl, wpAny_pure ⟨_, rfl, ?_⟩⟩
  obtain ⟨c, hc2⟩ := sortedHeap_at (vs := vs) (out := (sortVals (dataKind (sortingHeap (h1.push (seqObj "list" vs.toArray 0)) h1.objs.size vs) ((js.map kD).map encD)) false vs vs).toArray) hoL
  have out := sortVals_data false ej er' (sortOk_alike ok')
  rw [sort_perm pk (pk.nodup_iff.mpr nd)] at out
  obtain ⟨ws, rw', q⟩ := reps_of_each out
  have hl : ws.length ≤ sizeLine := by rw [q.length, List.length_mergeSort, List.length_map]; exact mil (by omega)
  have hn : H h1.objs.size = none := I1.hok.fresh (Nat.le_refl _)
  have z := nr_lst hn q
  exact ⟨.ref h1.objs.size, _, I1.laid (t' := tk) (fun b u e => by
    rw [sortedHeap_old (Nat.ne_of_lt (Heap.lt_size e)) (by rw [size_push']; exact Nat.lt_succ_of_lt (Heap.lt_size e))]
    exact Heap.get?_push_of_some _ e) (Nat.le_refl _) (show ObjOk X.prog X.w _ _ _ (.lst ws) from ⟨hl, _, c, rw', hc2⟩), rfl, k _ _ z.1 z.2⟩
theorem pe_evSortSet (hc : X.calm = true) (hK : X.K = C.G.K) (hu : X.A.units + 64 < cLine) (hg : Gl X "sorted") (hm : X.mg "sorted" = none) (hg2 : Gl X "set") (hm2 : X.mg "set" = none) (ha : PE X a (tEv C f)) (na : starEach [a] X.env = (false, eval a X.env) :: starEach [] X.env := by rfl) :
    PE X (.Call (.Name "sorted" p) [.Call (.Name "set" p2) [a] [] q] [] pos) (tEv C (evSortSet f)) := by
  refine ⟨fun pins s σ H Q I h => ?_⟩
  obtain ⟨ρ, h, ρ', R, ev, kk⟩ := h
  obtain ⟨⟨h1, ρ1⟩, e1, ea⟩ := Res.bind_ok ev
  obtain ⟨d, e2, eb⟩ := Res.bind_ok ea
  obtain ⟨ks, e3, ec⟩ := Res.bind_ok eb
  split at ec
  · rename_i hl
    obtain ⟨r, e4, ed⟩ := Res.bind_ok ec
    cases ed
    have ok : sortOk ((dedupK ks).map kD) = true ∧ h = .tmp (.lst (((dedupK ks).map kD).mergeSort (dataLe false encD))) := by
      have e4 := Res.of_ok e4
      unfold sortD at e4
      split at e4
      · cases e4; exact ⟨by assumption, rfl⟩
      · cases e4
    obtain ⟨ok, rfl⟩ := ok
    refine Call_ (ld_blt I hg hm boot_sorted (PyProof.Rows.callWith_builtin1 (PyProof.Rows.args_cons ?_ rfl) rfl rfl))
    refine Call_ (ld_blt I hg2 hm2 boot_set (PyProof.Rows.callWith_type1 (PyProof.Rows.args_cons (thn ((pe_settle ha).run pins s σ H (fun v H1 => Ext H H1 ∧ EnvR C σ H1 ρ' ∧ HR C σ H1 ρ' v h1) I ⟨ρ, h1, ρ', R, e1, fun v H1 x1 R1 r1 => ⟨x1, R1, r1⟩⟩) fun v s1 ⟨x, H1, I1, r1, x1, R1, hr⟩ => PyProof.Rows.args_nil ?_) na) na rfl))
    refine set_run hc hK I1 (HR.look R1 hr (Res.of_ok e2)) r1 (Res.of_ok e3) hl fun h' tk hS hk => PyProof.Rows.args_nil ?_
    have I2 : Inv X pins σ H1 { s1 with heap := h', toks := tk } := I1.kept hk
    have dl := dedup_length ks []
    have dl : (dedupK ks).length ≤ ks.length := by simpa [dedupK] using dl
    exact sorted_setL hc hK hu I2 hS ok (by omega) fun v H2 gr n => kk v H2 (x1.trans gr.ext) (R1.grow gr) (n.hr R1)
  · cases ec
end
end Ft
set_option Elab.async false
set_option linter.all false
set_option maxRecDepth 100000
set_option maxHeartbeats 2000000
/-! FtU: short words for the printed proofs. -/
namespace Ft
open PySem PySem.Spec PySem.Calls PyProof.Rows L2

/-- a def of the module as its callers need it: k its depth, ms its parameters' modes, dds its defaults -/
structure DefOk (P : Program) (w : World) (K : PySem.W.Frag) (mg : Str → Option Value) (base : Heap) (G : Pg) (x : Str) (k : Nat) (ms : List Bool) (fn : FnV) (dds : List D) : Prop where
  ex : ∃ f fd ps dus dvs, FnOk P w K mg base CX0 k f fd ps (spF G ms fn) ∧ mg x = some (.ref f) ∧ PySem.W.keepIn K (.ref f) = true ∧ Binds K fd ps dus ∧ Vals dvs dus ∧ ∀ H, Reps G H dvs dds
/-- a text, an int that stands under a name -/
def GStr (mg : Str → Option Value) (x y : Str) : Prop := ∃ t, mg x = some (.str y t)
def GInt (mg : Str → Option Value) (x : Str) (i : Int) : Prop := ∃ t, mg x = some (.int i t)
section
variable {X : Cx} {C : Ct} {a b c e o : Expr} {es : List Expr} {f fa fb fo : EV} {g : CV} {ga : AV} {pos p : Pos} {x : Str}
theorem pN (i : Nat) (hN : X.N[i]? = some x := by rfl) (hv : Vis X.env.scope x) (hd : (x == ("__debug__" : Str)) = false := by decide +kernel) (hcd : (x == ("__classdict__" : Str)) = false := by decide +kernel) : PE X (.Name x pos) (tEv C (evVar i)) := pe_evVar hN hv hd hcd
theorem pGs {y : Str} (h : GStr X.mg x y) (hg : Gl X x := by rfl) (hd : (x == ("__debug__" : Str)) = false := by decide +kernel) : PE X (.Name x pos) (tEv C (evC (.str y))) := by
  obtain ⟨t, h⟩ := h
  exact pe_evGlob hg h (v := .str y) ⟨t, rfl⟩ (fun _ => .str y) hd
theorem pGi {i : Int} (h : GInt X.mg x i) (hg : Gl X x := by rfl) (hd : (x == ("__debug__" : Str)) = false := by decide +kernel) : PE X (.Name x pos) (tEv C (evC (.int i))) := by
  obtain ⟨t, h⟩ := h
  exact pe_evGlob hg h (v := .int i) ⟨t, rfl⟩ (fun _ => .int i) hd
theorem pDef {k : Nat} {ms : List Bool} {fn : FnV} {dds : List D} (F : DefOk X.prog X.w X.K X.mg X.base C.G x k ms fn dds) (hr : Room k X.A) (ha : PA X (e :: es) (tCv C g)) (hg : Gl X x := by rfl) (hdb : (x == ("__debug__" : Str)) = false := by decide +kernel)
    (he : starEach (e :: es) X.env = (false, eval e X.env) :: starEach es X.env := by rfl) (hpl : (backTo pos (starEach es X.env)).any (·.1) = false := by rfl) : PE X (.Call (.Name x p) (e :: es) [] pos) (tEv C (evCall ms fn dds g)) := by
  obtain ⟨f, fd, ps, dus, dvs, h1, h2, h3, h4, h5, h6⟩ := F.ex
  exact pe_evCall (E := E0) h1 hr hg h2 h3 h4 h5 h6 pass0 ha hdb he hpl
theorem pDef0 {k : Nat} {ms : List Bool} {fn : FnV} {dds : List D} (F : DefOk X.prog X.w X.K X.mg X.base C.G x k ms fn dds) (hr : Room k X.A) (hg : Gl X x := by rfl) (hdb : (x == ("__debug__" : Str)) = false := by decide +kernel) :
    PE X (.Call (.Name x p) [] [] pos) (tEv C (evCall ms fn dds cvNil)) := by
  obtain ⟨f, fd, ps, dus, dvs, h1, h2, h3, h4, h5, h6⟩ := F.ex
  exact pe_evCall0 (E := E0) h1 hr hg h2 h3 h4 h5 h6 pass0 hdb
/-- isinstance(e, T) -/
theorem pIsB {T : String} {y : Str} {p' : Pos} (hK : X.K = C.G.K) (hm : X.mg "isinstance" = none) (hy : X.mg y = none) (hv : bootBuiltins y = some (.type T)) (ha : PE X a (tEv C f)) (hg : Gl X "isinstance" := by rfl) (hgy : Gl X y := by rfl) (hn : y ≠ "__name__" := by decide +kernel) (hd : (y == ("__debug__" : Str)) = false := by decide +kernel)
    (s1 : starEach [a, .Name y p'] X.env = (false, eval a X.env) :: starEach [.Name y p'] X.env := by rfl) (s2 : starEach [.Name y p'] X.env = (false, eval (.Name y p') X.env) :: starEach [] X.env := by rfl) (hpl : (backTo pos (starEach [.Name y p'] X.env)).any (·.1) = false := by rfl) :
    PE X (.Call (.Name "isinstance" p) [a, .Name y p'] [] pos) (tEv C (evIsi (isB T) f)) :=
  pe_evIsi hK (ClsV.ty T) isB_ok hg hm ha (pe_bltn hgy hy hv rfl hn hd) s1 s2 hpl
theorem pIsC {c0 : Nat} {y : Str} {p' : Pos} (hK : X.K = C.G.K) (hm : X.mg "isinstance" = none) (hy : X.mg y = some (.ref (C.G.cls c0))) (ci : ClsI X.K (C.G.cls c0)) (ha : PE X a (tEv C f)) (hg : Gl X "isinstance" := by rfl) (hgy : Gl X y := by rfl) (hd : (y == ("__debug__" : Str)) = false := by decide +kernel)
    (s1 : starEach [a, .Name y p'] X.env = (false, eval a X.env) :: starEach [.Name y p'] X.env := by rfl) (s2 : starEach [.Name y p'] X.env = (false, eval (.Name y p') X.env) :: starEach [] X.env := by rfl) (hpl : (backTo pos (starEach [.Name y p'] X.env)).any (·.1) = false := by rfl) :
    PE X (.Call (.Name "isinstance" p) [a, .Name y p'] [] pos) (tEv C (evIsi (isC c0) f)) :=
  pe_evIsi hK (ClsV.own _) (isC_ok ci) hg hm ha (pe_glob hgy hy rfl hd) s1 s2 hpl
theorem pt_one {t : TT} (h : PT X a t) : PW X (.BoolOp .And [a] pos) t := pw_and1 h
theorem pt_oneO {t : TT} (h : PT X a t) : PW X (.BoolOp .Or [a] pos) t := pw_or1 h

/-! ### methods of lists and dicts -/
variable {gv : GV} {apos cpos : Pos}
theorem pAppend (i : Nat) (hv : Vis X.env.scope x) (ha : PA X (e :: es) (tGv C gv)) (hN : X.N[i]? = some x := by rfl) (hd : (x == ("__debug__" : Str)) = false := by decide +kernel) (hcd : (x == ("__classdict__" : Str)) = false := by decide +kernel)
    (hbase : attributeBase (.Name x p) "append" X.env (eval (.Name x p) X.env) = eval (.Name x p) X.env := by rfl)
    (hfew : ((backTo cpos (starEach (e :: es) X.env)).all (fun x => !x.1) && (backToKw cpos (keywordEach [] X.env)).all (fun x => x.1.isSome) && decide ((e :: es).length + ([] : List Keyword).length + (if ([] : List Keyword).isEmpty then 0 else 1) < 30)) = true := by rfl)
    (hline : (apos.endLine == cpos.line) = true := by rfl) (hs : starEach (e :: es) X.env = (false, eval e X.env) :: starEach es X.env := by rfl) (hplain : (backTo cpos (starEach es X.env)).any (·.1) = false := by rfl) :
    PE X (.Call (.Attribute (.Name x p) "append" apos) (e :: es) [] cpos) (tEv C (evMth .lst i mAppend gv)) := pe_evMth (t := .lst) F.plainAttrs_list F.slot_list_append F.type_list_append mtd_append hN hv hd hcd ha hbase hfew hline hs hplain
theorem pExtend (i : Nat) (hv : Vis X.env.scope x) (ha : PA X (e :: es) (tGv C gv)) (hN : X.N[i]? = some x := by rfl) (hd : (x == ("__debug__" : Str)) = false := by decide +kernel) (hcd : (x == ("__classdict__" : Str)) = false := by decide +kernel)
    (hbase : attributeBase (.Name x p) "extend" X.env (eval (.Name x p) X.env) = eval (.Name x p) X.env := by rfl)
    (hfew : ((backTo cpos (starEach (e :: es) X.env)).all (fun x => !x.1) && (backToKw cpos (keywordEach [] X.env)).all (fun x => x.1.isSome) && decide ((e :: es).length + ([] : List Keyword).length + (if ([] : List Keyword).isEmpty then 0 else 1) < 30)) = true := by rfl)
    (hline : (apos.endLine == cpos.line) = true := by rfl) (hs : starEach (e :: es) X.env = (false, eval e X.env) :: starEach es X.env := by rfl) (hplain : (backTo cpos (starEach es X.env)).any (·.1) = false := by rfl) :
    PE X (.Call (.Attribute (.Name x p) "extend" apos) (e :: es) [] cpos) (tEv C (evMth .lst i mExtend gv)) := pe_evMth (t := .lst) F.plainAttrs_list F.slot_list_extend F.type_list_extend mtd_extend hN hv hd hcd ha hbase hfew hline hs hplain
theorem pPop (i : Nat) (hv : Vis X.env.scope x) (ha : PA X (e :: es) (tGv C gv)) (hN : X.N[i]? = some x := by rfl) (hd : (x == ("__debug__" : Str)) = false := by decide +kernel) (hcd : (x == ("__classdict__" : Str)) = false := by decide +kernel)
    (hbase : attributeBase (.Name x p) "pop" X.env (eval (.Name x p) X.env) = eval (.Name x p) X.env := by rfl)
    (hfew : ((backTo cpos (starEach (e :: es) X.env)).all (fun x => !x.1) && (backToKw cpos (keywordEach [] X.env)).all (fun x => x.1.isSome) && decide ((e :: es).length + ([] : List Keyword).length + (if ([] : List Keyword).isEmpty then 0 else 1) < 30)) = true := by rfl)
    (hline : (apos.endLine == cpos.line) = true := by rfl) (hs : starEach (e :: es) X.env = (false, eval e X.env) :: starEach es X.env := by rfl) (hplain : (backTo cpos (starEach es X.env)).any (·.1) = false := by rfl) :
    PE X (.Call (.Attribute (.Name x p) "pop" apos) (e :: es) [] cpos) (tEv C (evMth .lst i mPop gv)) := pe_evMth (t := .lst) F.plainAttrs_list F.slot_list_pop F.type_list_pop mtd_pop hN hv hd hcd ha hbase hfew hline hs hplain
theorem pPop0 (i : Nat) (hv : Vis X.env.scope x) (hN : X.N[i]? = some x := by rfl) (hd : (x == ("__debug__" : Str)) = false := by decide +kernel) (hcd : (x == ("__classdict__" : Str)) = false := by decide +kernel)
    (hbase : attributeBase (.Name x p) "pop" X.env (eval (.Name x p) X.env) = eval (.Name x p) X.env := by rfl) (hline : (apos.endLine == cpos.line) = true := by rfl) :
    PE X (.Call (.Attribute (.Name x p) "pop" apos) [] [] cpos) (tEv C (evMth .lst i mPop gvNil)) := pe_evMth0 (t := .lst) F.plainAttrs_list F.slot_list_pop F.type_list_pop mtd_pop hN hv hd hcd hbase hline
theorem pUpdate (i : Nat) (hv : Vis X.env.scope x) (ha : PA X (e :: es) (tGv C gv)) (hN : X.N[i]? = some x := by rfl) (hd : (x == ("__debug__" : Str)) = false := by decide +kernel) (hcd : (x == ("__classdict__" : Str)) = false := by decide +kernel)
    (hbase : attributeBase (.Name x p) "update" X.env (eval (.Name x p) X.env) = eval (.Name x p) X.env := by rfl)
    (hfew : ((backTo cpos (starEach (e :: es) X.env)).all (fun x => !x.1) && (backToKw cpos (keywordEach [] X.env)).all (fun x => x.1.isSome) && decide ((e :: es).length + ([] : List Keyword).length + (if ([] : List Keyword).isEmpty then 0 else 1) < 30)) = true := by rfl)
    (hline : (apos.endLine == cpos.line) = true := by rfl) (hs : starEach (e :: es) X.env = (false, eval e X.env) :: starEach es X.env := by rfl) (hplain : (backTo cpos (starEach es X.env)).any (·.1) = false := by rfl) :
    PE X (.Call (.Attribute (.Name x p) "update" apos) (e :: es) [] cpos) (tEv C (evMth .dct i mUpdate gv)) := pe_evMth (t := .dct) F.plainAttrs_dict F.slot_dict_update F.type_dict_update mtd_update hN hv hd hcd ha hbase hfew hline hs hplain
theorem pGet (hu : X.A.units + 64 < cLine) (ha : PE X a (tEv C fa)) (hb : PE X b (tEv C fb)) (m : M1 X a "get" apos b cpos := by exact ⟨rfl, rfl, rfl, rfl⟩) : PE X (.Call (.Attribute a "get" apos) [b] [] cpos) (tEv C (evGet fa fb)) := pe_evGet hu ha hb m
theorem pGet2 {fc : EV} (hu : X.A.units + 64 < cLine) (ha : PE X a (tEv C fa)) (hb : PE X b (tEv C fb)) (hc : PE X c (tEv C fc)) (m : M2 X a "get" apos b c cpos := by exact ⟨rfl, rfl, rfl, rfl⟩) : PE X (.Call (.Attribute a "get" apos) [b, c] [] cpos) (tEv C (evGet2 fa fb fc)) := pe_evGet2 hu ha hb hc m
/-! ### built-in calls -/
theorem pB {op : Ops} {id : String} (hv : bootBuiltins x = some (.builtin id)) (hm : X.mg x = none) (hc : CallR X (.builtin id) (rOs C.G op)) (ha : PA X (e :: es) (tAv C ga)) (hg : Gl X x := by rfl) (hn : x ≠ "__name__" := by decide +kernel) (hdb : (x == ("__debug__" : Str)) = false := by decide +kernel)
    (he : starEach (e :: es) X.env = (false, eval e X.env) :: starEach es X.env := by rfl) (hpl : (backTo pos (starEach es X.env)).any (·.1) = false := by rfl) : PE X (.Call (.Name x p) (e :: es) [] pos) (tEv C (evOps op ga)) := pe_bfun hc hg hm hv ha hn hdb he hpl
theorem pT {op : Ops} {T : String} (hv : bootBuiltins x = some (.type T)) (hm : X.mg x = none) (hc : CallR X (.type T) (rOs C.G op)) (ha : PA X (e :: es) (tAv C ga)) (hg : Gl X x := by rfl) (hn : x ≠ "__name__" := by decide +kernel) (hdb : (x == ("__debug__" : Str)) = false := by decide +kernel)
    (he : starEach (e :: es) X.env = (false, eval e X.env) :: starEach es X.env := by rfl) (hpl : (backTo pos (starEach es X.env)).any (·.1) = false := by rfl) : PE X (.Call (.Name x p) (e :: es) [] pos) (tEv C (evOps op ga)) := pe_btyp hc hg hm hv ha hn hdb he hpl
theorem bt_len : bootBuiltins "len" = some (.builtin "len") := by decide +kernel
theorem bt_sorted : bootBuiltins "sorted" = some (.builtin "sorted") := by decide +kernel
theorem bt_abs : bootBuiltins "abs" = some (.builtin "abs") := by decide +kernel
theorem bt_max : bootBuiltins "max" = some (.builtin "max") := by decide +kernel
theorem bt_min : bootBuiltins "min" = some (.builtin "min") := by decide +kernel
theorem bt_sum : bootBuiltins "sum" = some (.builtin "sum") := by decide +kernel
theorem bt_all : bootBuiltins "all" = some (.builtin "all") := by decide +kernel
theorem bt_any : bootBuiltins "any" = some (.builtin "any") := by decide +kernel
theorem bt_list : bootBuiltins "list" = some (.type "list") := by decide +kernel
theorem bt_tuple : bootBuiltins "tuple" = some (.type "tuple") := by decide +kernel
theorem bt_int : bootBuiltins "int" = some (.type "int") := by decide +kernel
theorem bt_dict : bootBuiltins "dict" = some (.type "dict") := by decide +kernel
theorem bt_str : bootBuiltins "str" = some (.type "str") := by decide +kernel
theorem bt_bool : bootBuiltins "bool" = some (.type "bool") := by decide +kernel
/-! ### classes -/
theorem one_cls {K : PySem.W.Frag} {cls : Nat → Addr} {c0 : Nat} {y : Str} (h : ClsI K (cls c0)) (n : NoAttr K (cls c0) y) : ∀ c ∈ [c0], Cls K (cls c) ∧ NoAttr K (cls c) y := fun c hc => by
  cases List.mem_singleton.mp hc
  exact ⟨h.cl, n⟩
theorem pFld {cs : List Nat} (k : Nat) {y : Str} (inj : C.G.apart) (hc : ∀ c ∈ cs, Cls X.K (C.G.cls c) ∧ NoAttr X.K (C.G.cls c) y) (he : PE X e (tEv C f)) (hy : C.G.nm k = y := by rfl) (hb : attributeBase e y X.env (eval e X.env) = eval e X.env := by rfl) :
    PE X (.Attribute e y pos) (tEv C (evFld cs k f)) := pe_evFld inj hy hc he hb
/-- a method of the own class c0, as its callers need it -/
structure MetOk (P : Program) (w : World) (K : PySem.W.Frag) (mg : Str → Option Value) (base : Heap) (G : Pg) (c0 : Nat) (m : Str) (k : Nat) (ms : List Bool) (fn : FnV) : Prop where
  other : ∀ i, G.nm i ≠ m
  cls : ClsI K (G.cls c0)
  fn : ∃ fa fd ps, Meth K (G.cls c0) m fa ∧ FnOk P w K mg base CX0 k fa fd ps (spF G ms fn) ∧ Binds K fd ps []
theorem MetOk.to {k : Nat} {c0 : Nat} {m : Str} {ms : List Bool} {fn : FnV} (M : MetOk X.prog X.w X.K X.mg X.base C.G c0 m k ms fn) : MethOk X CX0 C.G k [c0] m ms fn [] [] E0 where
  other := M.other
  cls := fun c hc => by cases List.mem_singleton.mp hc; exact M.cls.cl
  fn := fun c hc => by
    cases List.mem_singleton.mp hc
    obtain ⟨fa, fd, ps, h1, h2, h3⟩ := M.fn
    exact ⟨fa, fd, ps, [], h1, h2, h3, .nil⟩
  dflt := fun _ => .nil
  pass := pass0
theorem pMet {k c0 : Nat} {m : Str} {ms : List Bool} {fn : FnV} (M : MetOk X.prog X.w X.K X.mg X.base C.G c0 m k ms fn) (hr : Room k X.A) (ho : PE X o (tEv C fo)) (ha : PA X (e :: es) (tCv C g)) {pl : Sem Bool}
    (hst : starEach (e :: es) X.env = (false, eval e X.env) :: starEach es X.env := by rfl) (hpl : (backTo pos (starEach es X.env)).any (·.1) = false := by rfl)
    (ht : eval (.Call (.Attribute o m apos) (e :: es) [] pos) X.env = (do
      let ov ← eval o X.env
      standAt apos.atName
      let (f, first) ← holding [ov] (getMethod ov m pl)
      callWith pos f first (backTo pos (starEach (e :: es) X.env)) (backToKw pos (keywordEach [] X.env))) := by rfl) :
    PE X (.Call (.Attribute o m apos) (e :: es) [] pos) (tEv C (evCall ms fn [] (cvRecv [c0] fo g))) := pe_evMeth (pl := pl) M.to hr ho ha hst hpl ht
/-- a property -/
structure PrpOk (P : Program) (w : World) (K : PySem.W.Frag) (mg : Str → Option Value) (base : Heap) (G : Pg) (c0 : Nat) (m : Str) (k : Nat) (fn : FnV) : Prop where
  cls : ClsI K (G.cls c0)
  fn : ∃ p fa fd ps, PropOf K (G.cls c0) m p fa ∧ FnOk P w K mg base CX0 k fa fd ps (spF G [false] fn) ∧ Binds K fd ps []
theorem pPrp {k c0 : Nat} {m : Str} {fn : FnV} (M : PrpOk X.prog X.w X.K X.mg X.base C.G c0 m k fn) (hr : Room (k + 1) X.A) (ho : PE X o (tEv C fo)) (hab : attributeBase o m X.env (eval o X.env) = eval o X.env := by rfl) :
    PE X (.Attribute o m pos) (tEv C (evCall [false] fn [] (cvRecv [c0] fo cvNil))) :=
  pe_evProp (cs := [c0]) (E := E0) ⟨fun c hc => by cases List.mem_singleton.mp hc; exact M.cls.cl, fun c hc => by
    cases List.mem_singleton.mp hc
    exact M.fn, pass0⟩ hr ho hab
/-- C.m(..), m a classmethod -/
structure CmtOk (P : Program) (w : World) (K : PySem.W.Frag) (mg : Str → Option Value) (base : Heap) (G : Pg) (c0 : Nat) (m : Str) (k : Nat) (fn : FnV) (n : Nat) : Prop where
  fn : ∃ mc p fa fd ps, ClX.CRead K (G.cls c0) mc ∧ ClX.CMet K (G.cls c0) mc m p fa ∧ FnOk P w K mg base CX0 k fa fd ps (spF G (List.replicate (n + 1) false) fn) ∧ Binds K fd ps []
  atm : G.atm c0 = G.cls c0
def cvAtm (n : Nat) (g : CV) : CV := fun ρ => do
  let (hs, ρ1) ← g ρ
  pure (.fr (.atm n) :: hs, ρ1)
theorem fnr {P : Program} {w : World} {K : PySem.W.Frag} {mg : Str → Option Value} {base : Heap} {CX : CXT} {k : Nat} {f : Addr} {fd : FuncData} {ps : List Str} {sp : Sp} (F : FnOk P w K mg base CX k f fd ps sp) (hb : Binds K fd ps []) : FnR P w K mg base CX k f sp :=
  fun A outer s H us vs Q E hr e0 r h => by
    have KX : K.In s.heap := e0.mod.kin.keeps fun b o e => (e0.bs b o e).1
    have hl : (us ++ ([] : List Value)).length = ps.length := by rw [List.append_nil, ← r.length]; exact F.len _ _ _ _ h
    have z := hb s us KX hl
    rw [List.append_nil] at z
    exact F.run A outer s H ⟨us, []⟩ us vs Q E hr e0 z r h
theorem pCmt {k c0 n : Nat} {m y : Str} {fn : FnV} {py : Pos} (M : CmtOk X.prog X.w X.K X.mg X.base C.G c0 m k fn n) (hy : X.mg y = some (.ref (C.G.cls c0))) (hr : Room k X.A) (ha : PA X (e :: es) (tCv C g)) (hg : Gl X y := by rfl) (hdb : (y == ("__debug__" : Str)) = false := by decide +kernel) {pl : Sem Bool}
    (hst : starEach (e :: es) X.env = (false, eval e X.env) :: starEach es X.env := by rfl) (hpl : (backTo pos (starEach es X.env)).any (·.1) = false := by rfl)
    (ht : eval (.Call (.Attribute (.Name y py) m apos) (e :: es) [] pos) X.env = (do
      let ov ← eval (.Name y py) X.env
      standAt apos.atName
      let (f, first) ← holding [ov] (getMethod ov m pl)
      callWith pos f first (backTo pos (starEach (e :: es) X.env)) (backToKw pos (keywordEach [] X.env))) := by rfl) :
    PE X (.Call (.Attribute (.Name y py) m apos) (e :: es) [] pos) (tEv C (evCall (List.replicate (n + 1) false) fn [] (cvAtm c0 g))) := by
  obtain ⟨mc, p', fa', fd, ps, h1, h2, h3, h4⟩ := M.fn
  refine pe_imp (ClX.pe_cmeth (pl := pl) (E := E0) (pe_glob (v := .ref (C.G.cls c0)) hg hy rfl hdb) h1 h2 (fnr h3 h4) hr pass0 ha hst hpl ht) fun σ H Q h => ?_
  refine ⟨rfl, ?_⟩
  have z := call_imp (dvs := []) (E := E0) (fun _ => .nil) h
  obtain ⟨ρ, hs, ρ', R, ev, kk⟩ := z
  obtain ⟨⟨hs', ρ1⟩, e1, ea⟩ := Res.bind_ok ev
  cases Res.pure_ok ea
  refine ⟨ρ, hs', _, R, e1, fun vs H1 x1 R1 r1 => ?_⟩
  have q := kk (.ref (C.G.cls c0) :: vs) H1 x1 R1 (.fr (M.atm ▸ .atm c0) r1)
  simpa using q

/-! ### keywords -/
def GLen (g : GV) (n : Nat) : Prop := ∀ ρ ds ρ', g ρ = .ok (ds, ρ') → ds.length = n
theorem len_nil : GLen gvNil 0 := fun ρ ds ρ' e => by cases e; rfl
theorem len_cons {n : Nat} (h : GLen gv n) : GLen (gvCons f gv) (n + 1) := fun ρ ds ρ' e => by
  obtain ⟨⟨d, ρ1⟩, e1, ea⟩ := Res.bind_ok e
  obtain ⟨⟨es, ρ2⟩, e2, eb⟩ := Res.bind_ok ea
  cases Res.pure_ok eb
  simp [h _ _ _ e2]
/-- C(k = v, ..), every parameter named, in the def's order -/
structure MakOk (P : Program) (w : World) (K : PySem.W.Frag) (mg : Str → Option Value) (base : Heap) (G : Pg) (c0 : Nat) (y : Str) (k n : Nat) (fn : FnV) (ks : List Str) : Prop where
  ex : ∃ f fd ps gU, Mk K (G.cls c0) f ∧ FnOk P w K mg base CX0 k f fd ps (spF G (true :: List.replicate n false) fn) ∧ KBn K fd ps 1 ks gU (fun vs zs => vs ++ zs)
  mg : mg y = some (.ref (G.cls c0))
  len : ks.length = n
theorem pMake {c0 k n : Nat} {y : Str} {fn : FnV} {ks : List Str} {kws : List Keyword} {gk : GV} (M : MakOk X.prog X.w X.K X.mg X.base C.G c0 y k n fn ks) (hr : Room (k + 1) X.A) (hl : GLen gk n) (hkw : PK X kws (tGv C gk)) (hg : Gl X y := by rfl)
    (hall : (backToKw pos (keywordEach kws X.env)).all (·.1.isSome) = true := by rfl) (hks : (backToKw pos (keywordEach kws X.env)).filterMap (·.1) = ks := by rfl) (hdb : (y == ("__debug__" : Str)) = false := by decide +kernel)
    (hpl : ((backTo pos (starEach [] X.env)).any (·.1) || (backToKw pos (keywordEach kws X.env)).any (·.1.isNone)) = false := by rfl) :
    PE X (.Call (.Name y p) [] kws pos) (tEv C (evMake c0 fn gk fun ds => ds)) := by
  obtain ⟨f, fd, ps, gU, h1, h2, h3⟩ := M.ex
  exact pe_evMakeK (E := E0) (gW := fun zs => zs) h1 h2 hr hg M.mg h3 pass0 (fun _ _ => rfl) (fun r l => ⟨r, l.trans M.len⟩) (fun ρ ds ρ' e => (hl ρ ds ρ' e).trans M.len.symm) hkw hall hks hdb hpl
/-- o.m(e, .., k = v, ..), the names in the def's order -/
structure MkwOk (P : Program) (w : World) (K : PySem.W.Frag) (mg : Str → Option Value) (base : Heap) (G : Pg) (c0 : Nat) (m : Str) (k np : Nat) (ms : List Bool) (fn : FnV) (ks : List Str) : Prop where
  other : ∀ i, G.nm i ≠ m
  cls : ClsI K (G.cls c0)
  fn : ∃ fa fd ps gU, Meth K (G.cls c0) m fa ∧ FnOk P w K mg base CX0 k fa fd ps (spF G ms fn) ∧ KBn K fd ps np ks gU (fun vs zs => vs ++ zs) ∧ ps.length = np + ks.length
def putKw (hs : List HA) (ds : List D) : List HA := hs ++ ds.map HA.fr
theorem putKw_ok {G : Pg} {σ : L2.St} {H : Hp} {vs zs : List V} {hs : List HA} {ds : List D} (a : HAs G σ H vs hs) (b : Reps G H zs ds) : HAs G σ H (vs ++ zs) (putKw hs ds) := by
  have tail : ∀ {zs : List V} {ds : List D}, Reps G H zs ds → HAs G σ H zs (ds.map HA.fr) := fun {zs ds} b => by
    induction zs generalizing ds with
    | nil => cases b; exact .nil
    | cons z zs ih => cases b with | cons q t => exact .fr q (ih t)
  induction a with
  | nil => exact tail b
  | fr q _ ih => exact .fr q ih
  | ln q _ ih => exact .ln q ih
theorem pMkw {k c0 np : Nat} {m : Str} {ms : List Bool} {fn : FnV} {ks : List Str} {kws : List Keyword} {gk : GV} (M : MkwOk X.prog X.w X.K X.mg X.base C.G c0 m k np ms fn ks) (hr : Room k X.A) (ho : PE X o (tEv C fo)) (ha : PA X (e :: es) (tCv C g)) (hl : GLen gk ks.length) (hkw : PK X kws (tGv C gk)) {pl : Sem Bool}
    (hall : (backToKw pos (keywordEach kws X.env)).all (·.1.isSome) = true := by rfl) (hks : (backToKw pos (keywordEach kws X.env)).filterMap (·.1) = ks := by rfl)
    (hst : starEach (e :: es) X.env = (false, eval e X.env) :: starEach es X.env := by rfl) (hpl : ((backTo pos (starEach (e :: es) X.env)).any (·.1) || (backToKw pos (keywordEach kws X.env)).any (·.1.isNone)) = false := by rfl)
    (ht : eval (.Call (.Attribute o m apos) (e :: es) kws pos) X.env = (do
      let ov ← eval o X.env
      standAt apos.atName
      let (f, first) ← holding [ov] (getMethod ov m pl)
      callWith pos f first (backTo pos (starEach (e :: es) X.env)) (backToKw pos (keywordEach kws X.env))) := by rfl) :
    PE X (.Call (.Attribute o m apos) (e :: es) kws pos) (tEv C (evCall ms fn [] (cvRecv [c0] fo (cvK g gk putKw)))) := by
  obtain ⟨fa, fd, ps, gU, hM, F, hb, hn⟩ := M.fn
  refine ⟨fun pins s σ H Q I h => ?_⟩
  obtain ⟨c, hm, z⟩ := recv_imp (call_imp (dvs := []) (E := E0) (fun _ => .nil) h)
  cases List.mem_singleton.mp hm
  refine PySem.W.methodCall_KW (pl := pl) (thn ((pe_give ho).run pins s σ H _ I z) fun u s1 ⟨v, H1, I1, rv, a, dx, fs, ds, ev, hz, rf, q⟩ => ?_) ht
  subst ev
  cases rv
  refine read_meth I1 hz.rd M.cls.cl hM (repF_none M.other rf) ?_
  have q := cvK_imp (gV := fun vs zs => vs ++ zs) (fun a b => putKw_ok a b) q
  refine PySem.W.callWith_KW (first := [.ref a]) (h₀ := X.base) I.ok.mod.kin hM.kp hall (thn (ha.run pos pins s1 σ H1 _ I1 q) fun us s2 ⟨vs, H2, I2, r, ρ2, ds2, ρ3, R2, e2, k2⟩ => ?_) hpl hst
  refine thn (hkw.run pos pins s2 σ H2 _ I2 ⟨ρ2, ds2, ρ3, R2, e2, fun zs H3 x3 R3 r3 => (⟨k2 zs H3 x3 R3 r3, r3.length⟩ : _ ∧ zs.length = ds2.length)⟩) fun ws s3 ⟨zs, H3, I3, rz, q3, lz⟩ => ⟨I3.kIn, ?_⟩
  rw [hks]
  simp only [List.append_nil] at q3
  have lz : zs.length = ks.length := lz.trans (hl _ _ _ e2)
  have ltot := F.len _ _ _ _ q3
  have r2 : Vals (V.ref a :: (vs ++ zs)) (gU (.ref a :: us) ws) := hb.rel (vs := V.ref a :: vs) (.cons rfl r) rz
  have lu : (Value.ref a :: us).length = np := by
    have := r.length
    simp only [List.length_cons, List.length_append] at ltot ⊢
    omega
  refine wpAny_call (codeAny_mono (F.run X.A X.stack s3 H3 ⟨.ref a :: us, ks.zip ws⟩ _ _ Q E0 hr I3.env0 (hb.to s3 (.ref a :: us) ws I3.kIn lu (by rw [← rz.length]; exact lz)) r2 q3) fun r s' hq => ?_)
  cases r with
  | error er => exact (pass0 (X := X) pins σ H3 s3 er s' I3 hq)
  | ok fl =>
    cases fl with
    | ret u => exact I3.after hq
    | _ => exact hq.elim
end
/-- a def with defaults -/
theorem ok_defD {P : Program} {w : World} {K : PySem.W.Frag} {mg : Str → Option Value} {base : Heap} {G : Pg} {x qual : Str} {st : Stmt} {f : Addr} {fd : FuncData} {N ps : List Str} {k n : Nat} {ms : List Bool} {body : SV} {dvs : List V} {kws : List (Str × V)}
    (F : FunD K x qual (defArgs st) (defBody st) (defScope st) dvs kws f fd) (S : FnScope N ps (defScope st)) (hp : ms.length = ps.length) (hN : N.length = ms.length + n)
    (hb : ∀ (cdv : Value) (A : Around) (outer : List Env) (s : Shared) (H : Hp) (E : XK) (H0 : Hp) (M : List (Nat × Addr)), Room k (A.deeper (envOfC qual (defScope st) s.heap.objs.size f cdv)) →
      PSs (cxOf CX0 P w K mg base N qual (defScope st) f cdv A outer s H E).nox (defBody st) (tSv ⟨G, H0, M⟩ body)) :
    FnOk P w K mg base CX0 (k + 1) f fd ps (spF G ms (fnOf n ms body)) := by
  refine F.ok S (fun vs H Q E h => ?_) (fun cdv A outer s H vs Q E hr h => ?_)
  · obtain ⟨ds, as, r, ls, h, _⟩ := h
    rw [h.lens.1, hp]
  · obtain ⟨ds, as, r, ls, h, ev, q⟩ := h
    exact ⟨_, (hb cdv A outer s H E H (lentsAt 0 ms as) hr).nox, body_ok h hN ev q⟩
end Ft
set_option Elab.async false
set_option linter.all false
set_option maxRecDepth 100000
set_option maxHeartbeats 4000000
/-! FtY: a, b = x, y and a, b, c = x, y, z where a name is shared with an inner scope (the pair is made and taken apart). -/
namespace Ft
open PySem PySem.Spec PyProof.Rows L2
section
variable {X : Cx} {C : Ct} {σ : L2.St} {H H' : Hp} {ρ ρ' : Rho} {a b c e : Expr} {f fa fb fc : EV} {pos p : Pos}
theorem grow_tup {H : Hp} {t : Addr} {vs : List V} (h : H t = none) : Grow H (upd H t (.tup vs)) := Grow.upd h
theorem HR.grown {v : V} {h : Hd} (r : HR C σ H ρ v h) (g : Grow H H') : HR C σ H' ρ v h := r.step g.ext fun _ a _ _ u e => g a u e
theorem ps_svParT {i j kt k2 : Nat} {x y : Str} {px py pt pt2 : Pos} (hK : X.K = C.G.K) (hc : X.calm = true) (hN : X.N.Nodup) (hi : X.N[i]? = some x) (hj : X.N[j]? = some y)
    (hx : Loc X.env.scope x) (hy : Loc X.env.scope y) (ha : PE X a (tEv C fa)) (hb : ∀ H0, PE X b (tEv (C.with H0) fb))
    (fx : X.fn x = true ∨ X.env.scope.names.lookup x = some .local := by first | exact .inl rfl | exact .inr rfl | assumption) (fy : X.fn y = true ∨ X.env.scope.names.lookup y = some .local := by first | exact .inl rfl | exact .inr rfl | assumption)
    (hs : swapsWithSole [.Tuple [.Name x px, .Name y py] kt pt] (.Tuple [a, b] k2 pt2) pos.line X.env = pure false := by rfl) (hw : swappedStores [.Tuple [.Name x px, .Name y py] kt pt] (.Tuple [a, b] k2 pt2) X.env = pure none := by rfl)
    (s1 : starEach [a, b] X.env = (false, eval a X.env) :: starEach [b] X.env := by rfl) (s2 : starEach [b] X.env = (false, eval b X.env) :: starEach [] X.env := by rfl)
    (g1 : (assignEach [.Name x px, .Name y py] X.env).map (·.2) = assign (.Name x px) X.env :: (assignEach [.Name y py] X.env).map (·.2) := by rfl) (g2 : (assignEach [.Name y py] X.env).map (·.2) = assign (.Name y py) X.env :: (assignEach [] X.env).map (·.2) := by rfl)
    (hn : (assignEach [.Name x px, .Name y py] X.env).length = 2 := by rfl) (hst : (assignEach [.Name x px, .Name y py] X.env).findIdx? (·.1) = none := by rfl)
    (h1 : (assignEach [.Tuple [.Name x px, .Name y py] kt pt] X.env).map (·.2) = [assign (.Tuple [.Name x px, .Name y py] kt pt) X.env] := by rfl) :
    PS X (.Assign [.Tuple [.Name x px, .Name y py] kt pt] (.Tuple [a, b] k2 pt2) pos) (tSv C (svPar i j fa fb)) :=
  ps_imp (ps_asg (pe_tup (pa_cons (pe_keep ha) (pa_cons (pe_kept hb) pa_nil s2) s1)) (pg_tup hc (pgs_cons (pg_name hN hi hx fx) (pgs_cons (pg_name hN hj hy fy) pgs_nil g2) g1) hn hst) hs hw h1) fun Dd σ H q => by
    obtain ⟨ρ, o, ρ', R, ev, k⟩ := q
    obtain ⟨⟨h1, ρ1⟩, e1, ea⟩ := Res.bind_ok ev
    obtain ⟨⟨h2, ρ2⟩, e2, eb⟩ := Res.bind_ok ea
    obtain ⟨ρ3, e3, ec⟩ := Res.bind_ok eb
    obtain ⟨ρ4, e4, ed⟩ := Res.bind_ok ec
    cases Res.pure_ok ed
    refine ⟨ρ, h1, ρ1, R, e1, fun v H1 x1 R1 r1 => keep_hold R1 (ns_keep e1) r1 fun C' _ _ R1' back => ⟨ρ1, h2, ρ2, R1', e2, fun w H2 x2 R2' r2' => ?_⟩⟩
    obtain ⟨R2, r1', r2, ne⟩ := back w H2 h2 ρ2 x2 R2' (ns_keep e2) r2'
    refine ⟨mil (by decide : 2 ≤ 1000000), fun t ht => ?_⟩
    have g := grow_tup (vs := [v, w]) ht
    refine ⟨t, [v, w], rfl, .inl (.inl upd_same), rfl, v, [w], rfl, w, [], rfl, rfl, ?_⟩
    have R2g := R2.grow g
    have r1g := HR.grown r1' g
    have r2g := HR.grown r2 g
    have R3 := R2g.stored (Res.of_ok e3) r1g
    have r3 := HR.stored R2g (Res.of_ok e3) r1g r2g (ns_keep e2) ne
    exact k _ _ ((x1.trans x2).trans g.ext) (R3.stored (Res.of_ok e4) r3)
theorem ps_svParT3 {i j l kt k2 : Nat} {x y z : Str} {px py pz pt pt2 : Pos} (hK : X.K = C.G.K) (hc : X.calm = true) (hN : X.N.Nodup) (hi : X.N[i]? = some x) (hj : X.N[j]? = some y) (hl : X.N[l]? = some z)
    (hx : Loc X.env.scope x) (hy : Loc X.env.scope y) (hz : Loc X.env.scope z) (ha : PE X a (tEv C fa)) (hb : ∀ H0, PE X b (tEv (C.with H0) fb)) (hcc : ∀ H0, PE X c (tEv (C.with H0) fc))
    (fx : X.fn x = true ∨ X.env.scope.names.lookup x = some .local := by first | exact .inl rfl | exact .inr rfl | assumption) (fy : X.fn y = true ∨ X.env.scope.names.lookup y = some .local := by first | exact .inl rfl | exact .inr rfl | assumption) (fz : X.fn z = true ∨ X.env.scope.names.lookup z = some .local := by first | exact .inl rfl | exact .inr rfl | assumption)
    (hs : swapsWithSole [.Tuple [.Name x px, .Name y py, .Name z pz] kt pt] (.Tuple [a, b, c] k2 pt2) pos.line X.env = pure false := by rfl) (hw : swappedStores [.Tuple [.Name x px, .Name y py, .Name z pz] kt pt] (.Tuple [a, b, c] k2 pt2) X.env = pure none := by rfl)
    (s1 : starEach [a, b, c] X.env = (false, eval a X.env) :: starEach [b, c] X.env := by rfl) (s2 : starEach [b, c] X.env = (false, eval b X.env) :: starEach [c] X.env := by rfl) (s3 : starEach [c] X.env = (false, eval c X.env) :: starEach [] X.env := by rfl)
    (g1 : (assignEach [.Name x px, .Name y py, .Name z pz] X.env).map (·.2) = assign (.Name x px) X.env :: (assignEach [.Name y py, .Name z pz] X.env).map (·.2) := by rfl) (g2 : (assignEach [.Name y py, .Name z pz] X.env).map (·.2) = assign (.Name y py) X.env :: (assignEach [.Name z pz] X.env).map (·.2) := by rfl) (g3 : (assignEach [.Name z pz] X.env).map (·.2) = assign (.Name z pz) X.env :: (assignEach [] X.env).map (·.2) := by rfl)
    (hn : (assignEach [.Name x px, .Name y py, .Name z pz] X.env).length = 3 := by rfl) (hst : (assignEach [.Name x px, .Name y py, .Name z pz] X.env).findIdx? (·.1) = none := by rfl)
    (h1 : (assignEach [.Tuple [.Name x px, .Name y py, .Name z pz] kt pt] X.env).map (·.2) = [assign (.Tuple [.Name x px, .Name y py, .Name z pz] kt pt) X.env] := by rfl) :
    PS X (.Assign [.Tuple [.Name x px, .Name y py, .Name z pz] kt pt] (.Tuple [a, b, c] k2 pt2) pos) (tSv C (svPar3 i j l fa fb fc)) :=
  ps_imp (ps_asg (pe_tup (pa_cons (pe_keep ha) (pa_cons (pe_kept hb) (pa_cons (pe_kept hcc) pa_nil s3) s2) s1)) (pg_tup hc (pgs_cons (pg_name hN hi hx fx) (pgs_cons (pg_name hN hj hy fy) (pgs_cons (pg_name hN hl hz fz) pgs_nil g3) g2) g1) hn hst) hs hw h1) fun Dd σ H q => by
    obtain ⟨ρ, o, ρ', R, ev, k⟩ := q
    obtain ⟨⟨h1, ρ1⟩, e1, ea⟩ := Res.bind_ok ev
    obtain ⟨⟨h2, ρ2⟩, e2, eb⟩ := Res.bind_ok ea
    obtain ⟨⟨h3, ρ3⟩, e3, ec⟩ := Res.bind_ok eb
    obtain ⟨ρ4, e4, ed⟩ := Res.bind_ok ec
    obtain ⟨ρ5, e5, ee⟩ := Res.bind_ok ed
    obtain ⟨ρ6, e6, ef⟩ := Res.bind_ok ee
    cases Res.pure_ok ef
    refine ⟨ρ, h1, ρ1, R, e1, fun v H1 x1 R1 r1 => keep_hold R1 (ns_keep e1) r1 fun C' _ hC' R1' back => ⟨ρ1, h2, ρ2, R1', e2, fun w H2 x2 R2' r2' => ?_⟩⟩
    obtain ⟨R2, r1', r2, ne12⟩ := back w H2 h2 ρ2 x2 R2' (ns_keep e2) r2'
    obtain ⟨H0, rfl⟩ := hC'
    have hold2 := keep_hold (g := keep fc) (Q := fun u H3 => ([v, w, u] : List V).length ≤ sizeLine ∧ ∀ t, H3 t = none → gTup X.K 3 (gCons (gName i) (gCons (gName j) (gCons (gName l) gNil))) (.ref t) σ (upd H3 t (.tup [v, w, u])) Dd.nx) R2' (ns_keep e2) r2'
    obtain ⟨H00, q⟩ := hold2 fun C'' _ hC'' R2'' back2 => ⟨ρ2, h3, ρ3, R2'', e3, fun u H3 x3 R3'' r3'' => by
      obtain ⟨R3', r2'3, r3', ne23⟩ := back2 u H3 h3 ρ3 x3 R3'' (ns_keep e3) r3''
      obtain ⟨R3, r1'3, r3, ne13⟩ := back u H3 h3 ρ3 (x2.trans x3) R3' (ns_keep e3) r3'
      obtain ⟨_, _, r23, _⟩ := back w H3 h2 ρ3 (x2.trans x3) R3' (ns_keep e2) r2'3
      refine ⟨mil (by decide : 3 ≤ 1000000), fun t ht => ?_⟩
      have g := grow_tup (vs := [v, w, u]) ht
      refine ⟨t, [v, w, u], rfl, .inl (.inl upd_same), rfl, v, [w, u], rfl, w, [u], rfl, u, [], rfl, rfl, ?_⟩
      have S0 := R3.grow g
      have S1 := S0.stored (Res.of_ok e4) (HR.grown r1'3 g)
      have t2 := HR.stored S0 (Res.of_ok e4) (HR.grown r1'3 g) (HR.grown r23 g) (ns_keep e2) ne12
      have t3 := HR.stored S0 (Res.of_ok e4) (HR.grown r1'3 g) (HR.grown r3 g) (ns_keep e3) ne13
      have S2 := S1.stored (Res.of_ok e5) t2
      have t3' := HR.stored S1 (Res.of_ok e5) t2 t3 (ns_keep e3) ne23
      exact k _ _ (((x1.trans x2).trans x3).trans g.ext) (S2.stored (Res.of_ok e6) t3')⟩
    exact ⟨H00, q⟩
end
end Ft
set_option Elab.async false
set_option linter.all false
set_option maxRecDepth 100000
set_option maxHeartbeats 4000000
/-! FtV: the pure side: how the meanings are worked out, step by step. -/
namespace Ft
open PySem PySem.Spec L2

@[simp] theorem res_bindE {α β : Type} (a : α) (f : α → Res β) : ((Res.ok a : Res α) >>= f) = f a := rfl
@[simp] theorem res_bindF {α β : Type} (a : α) (f : α → Res β) : Res.bind (Res.ok a) f = f a := rfl
@[simp] theorem res_bad {α β : Type} (f : α → Res β) : Res.bind (Res.bad : Res α) f = Res.bad := rfl
@[simp] theorem res_pure {α : Type} (a : α) : (pure a : Res α) = .ok a := rfl
@[simp] theorem res_of {α : Type} (a : α) : Res.of (some a) = .ok a := rfl
@[simp] theorem res_ofN {α : Type} : Res.of (none : Option α) = .bad := rfl

def varAt (i : Nat) (ρ : Rho) : Option Slot → Res (Hd × Rho)
  | some (.sh d) => .ok (.val d, ρ)
  | some (.ow _) => .ok (.slot i, ρ)
  | some (.ln _) => .ok (.slot i, ρ)
  | _ => .bad
@[simp] theorem varAt_sh (i : Nat) (ρ : Rho) (d : D) : varAt i ρ (some (.sh d)) = .ok (.val d, ρ) := rfl
@[simp] theorem varAt_ow (i : Nat) (ρ : Rho) (d : D) : varAt i ρ (some (.ow d)) = .ok (.slot i, ρ) := rfl
@[simp] theorem varAt_ln (i : Nat) (ρ : Rho) (d : D) : varAt i ρ (some (.ln d)) = .ok (.slot i, ρ) := rfl
@[simp] theorem evVar_app (i : Nat) (ρ : Rho) : evVar i ρ = varAt i ρ ρ[i]? := by
  unfold evVar varAt
  rfl
@[simp] theorem evC_app (d : D) (ρ : Rho) : evC d ρ = .ok (.val d, ρ) := rfl
@[simp] theorem settle_val (d : D) : (Hd.val d).settle = .val d := rfl
@[simp] theorem settle_tmp (d : D) : (Hd.tmp d).settle = .val d := rfl
@[simp] theorem settle_slot (i : Nat) : (Hd.slot i).settle = .slot i := rfl
@[simp] theorem settle_app (f : EV) (ρ : Rho) : Ft.settle f ρ = (f ρ).bind fun p => .ok (p.1.settle, p.2) := by
  unfold Ft.settle
  cases f ρ with
  | ok p => rfl
  | bad => rfl
@[simp] theorem look_val (ρ : Rho) (d : D) : look ρ (.val d) = some d := rfl
@[simp] theorem look_tmp (ρ : Rho) (d : D) : look ρ (.tmp d) = some d := rfl
@[simp] theorem look_slot (ρ : Rho) (i : Nat) : look ρ (.slot i) = (ρ[i]?).bind Slot.dat := rfl
@[simp] theorem dat_ow (d : D) : Slot.dat (.ow d) = some d := rfl
@[simp] theorem dat_ln (d : D) : Slot.dat (.ln d) = some d := rfl
@[simp] theorem dat_sh (d : D) : Slot.dat (.sh d) = some d := rfl
@[simp] theorem dat_no : Slot.dat .no = none := rfl
@[simp] theorem own_app (ρ : Rho) (i : Nat) : Rho.own ρ i = (ρ[i]?).bind Slot.own := rfl
@[simp] theorem slot_ow (d : D) : Slot.own (.ow d) = some d := rfl
@[simp] theorem slot_ln (d : D) : Slot.own (.ln d) = some d := rfl
@[simp] theorem slot_sh (d : D) : Slot.own (.sh d) = none := rfl
@[simp] theorem slot_no : Slot.own .no = none := rfl
@[simp] theorem evOp2_app (op : Op2) (fa fb : EV) (ρ : Rho) : evOp2 op fa fb ρ = (Ft.settle fa ρ).bind fun p => (Ft.settle fb p.2).bind fun q => (Res.of (look q.2 p.1)).bind fun d1 => (Res.of (look q.2 q.1)).bind fun d2 => (Res.of (op d1 d2)).bind fun r => .ok (r, q.2) := rfl
@[simp] theorem evOp1_app (op : Op1) (fa : EV) (ρ : Rho) : evOp1 op fa ρ = (Ft.settle fa ρ).bind fun p => (Res.of (look p.2 p.1)).bind fun d1 => (Res.of (op d1)).bind fun r => .ok (r, p.2) := rfl
def tstK : Hd × Rho → Res (Bool × Rho)
  | (.val (.bl b), ρ) => .ok (b, ρ)
  | _ => .bad
@[simp] theorem tstK_b (b : Bool) (ρ : Rho) : tstK (.val (.bl b), ρ) = .ok (b, ρ) := rfl
@[simp] theorem tst_app (f : EV) (ρ : Rho) : tst f ρ = (f ρ).bind tstK := by
  unfold tst
  show Res.bind _ _ = _
  cases f ρ with
  | bad => rfl
  | ok p =>
    obtain ⟨h, r⟩ := p
    cases h with
    | val d => cases d <;> rfl
    | tmp d => rfl
    | slot i => rfl
@[simp] theorem evB_app (f : BV) (ρ : Rho) : evB f ρ = (f ρ).bind fun p => .ok (.val (.bl p.1), p.2) := rfl
@[simp] theorem bvNot_app (f : BV) (ρ : Rho) : bvNot f ρ = (f ρ).bind fun p => .ok (!p.1, p.2) := rfl
@[simp] theorem bvAnd_app (f g : BV) (ρ : Rho) : bvAnd f g ρ = (f ρ).bind fun p => if p.1 = true then g p.2 else .ok (false, p.2) := rfl
@[simp] theorem bvOr_app (f g : BV) (ρ : Rho) : bvOr f g ρ = (f ρ).bind fun p => if p.1 = true then .ok (true, p.2) else g p.2 := rfl
@[simp] theorem evIf_app (c : BV) (f g : EV) (ρ : Rho) : evIf c f g ρ = (c ρ).bind fun p => if p.1 = true then f p.2 else g p.2 := rfl
@[simp] theorem avNil_app (ρ : Rho) : avNil ρ = .ok ([], ρ) := rfl
@[simp] theorem avCons_app (f : EV) (g : AV) (ρ : Rho) : avCons f g ρ = (Ft.settle f ρ).bind fun p => (g p.2).bind fun q => .ok (p.1 :: q.1, q.2) := rfl
@[simp] theorem looks_nil (ρ : Rho) : looks ρ [] = some [] := rfl
@[simp] theorem looks_cons (ρ : Rho) (h : Hd) (hs : List Hd) : looks ρ (h :: hs) = (look ρ h).bind fun d => (looks ρ hs).bind fun ds => some (d :: ds) := by
  rw [looks]
  cases look ρ h <;> cases looks ρ hs <;> rfl
@[simp] theorem evOps_app (op : Ops) (g : AV) (ρ : Rho) : evOps op g ρ = (g ρ).bind fun p => (Res.of (looks p.2 p.1)).bind fun ds => (Res.of (op ds)).bind fun r => .ok (r, p.2) := rfl
@[simp] theorem give_val (ρ : Rho) (d : D) : Hd.give ρ (.val d) = .ok (.val d, ρ) := rfl
@[simp] theorem give_tmp (ρ : Rho) (d : D) : Hd.give ρ (.tmp d) = .ok (.val d, ρ) := rfl
def giveAt (i : Nat) (ρ : Rho) : Option Slot → Res (Hd × Rho)
  | some (.ow d) => .ok (.val d, ρ.set i (.sh d))
  | _ => .bad
@[simp] theorem giveAt_ow (i : Nat) (ρ : Rho) (d : D) : giveAt i ρ (some (.ow d)) = .ok (.val d, ρ.set i (.sh d)) := rfl
@[simp] theorem give_slot (ρ : Rho) (i : Nat) : Hd.give ρ (.slot i) = giveAt i ρ ρ[i]? := by
  unfold giveAt
  rfl
@[simp] theorem give_app (f : EV) (ρ : Rho) : give f ρ = (f ρ).bind fun p => p.1.give p.2 := rfl
def givenK : Hd × Rho → Res (D × Rho)
  | (.val d, ρ) => .ok (d, ρ)
  | _ => .bad
@[simp] theorem givenK_val (d : D) (ρ : Rho) : givenK (.val d, ρ) = .ok (d, ρ) := rfl
@[simp] theorem given_app (f : EV) (ρ : Rho) : given f ρ = (give f ρ).bind givenK := by
  unfold given
  show Res.bind _ _ = _
  cases give f ρ with
  | bad => rfl
  | ok p => obtain ⟨h, r⟩ := p; cases h <;> rfl
@[simp] theorem keepH_val (ρ : Rho) (d : D) : Hd.keep ρ (.val d) = .ok (.val d, ρ) := rfl
@[simp] theorem keepH_tmp (ρ : Rho) (d : D) : Hd.keep ρ (.tmp d) = .ok (.tmp d, ρ) := rfl
@[simp] theorem keepH_slot (ρ : Rho) (i : Nat) : Hd.keep ρ (.slot i) = Hd.give ρ (.slot i) := rfl
@[simp] theorem keep_app (f : EV) (ρ : Rho) : keep f ρ = (f ρ).bind fun p => p.1.keep p.2 := rfl
def storeAt (ρ : Rho) (i : Nat) (s : Slot) : Option Slot → Option Rho
  | some (.ln _) => none
  | some _ => some (ρ.set i s)
  | none => none
@[simp] theorem storeAt_no (ρ : Rho) (i : Nat) (s : Slot) : storeAt ρ i s (some .no) = some (ρ.set i s) := rfl
@[simp] theorem storeAt_sh (ρ : Rho) (i : Nat) (s : Slot) (d : D) : storeAt ρ i s (some (.sh d)) = some (ρ.set i s) := rfl
@[simp] theorem storeAt_ow (ρ : Rho) (i : Nat) (s : Slot) (d : D) : storeAt ρ i s (some (.ow d)) = some (ρ.set i s) := rfl
@[simp] theorem store_val (ρ : Rho) (i : Nat) (d : D) : ρ.store i (.val d) = storeAt ρ i (.sh d) ρ[i]? := by
  unfold Rho.store storeAt
  cases ρ[i]? with
  | none => rfl
  | some s => cases s <;> rfl
@[simp] theorem store_tmp (ρ : Rho) (i : Nat) (d : D) : ρ.store i (.tmp d) = storeAt ρ i (.ow d) ρ[i]? := by
  unfold Rho.store storeAt
  cases ρ[i]? with
  | none => rfl
  | some s => cases s <;> rfl
def putAt (ρ : Rho) (i : Nat) (d : D) : Option Slot → Option Rho
  | some (.ow _) => some (ρ.set i (.ow d))
  | some (.ln _) => some (ρ.set i (.ln d))
  | _ => none
@[simp] theorem putAt_ow (ρ : Rho) (i : Nat) (d e : D) : putAt ρ i d (some (.ow e)) = some (ρ.set i (.ow d)) := rfl
@[simp] theorem putAt_ln (ρ : Rho) (i : Nat) (d e : D) : putAt ρ i d (some (.ln e)) = some (ρ.set i (.ln d)) := rfl
@[simp] theorem put_app (ρ : Rho) (i : Nat) (d : D) : ρ.put i d = putAt ρ i d ρ[i]? := by
  unfold Rho.put putAt
  cases ρ[i]? with
  | none => rfl
  | some s => cases s <;> rfl
@[simp] theorem gvNil_app (ρ : Rho) : gvNil ρ = .ok ([], ρ) := rfl
@[simp] theorem gvCons_app (f : EV) (g : GV) (ρ : Rho) : gvCons f g ρ = (given f ρ).bind fun p => (g p.2).bind fun q => .ok (p.1 :: q.1, q.2) := rfl
def starK (g : GV) (ρ : Rho) : D → Res (List D × Rho)
  | .tup xs => (g ρ).bind fun q => .ok (xs ++ q.1, q.2)
  | .lst xs => (g ρ).bind fun q => .ok (xs ++ q.1, q.2)
  | _ => .bad
@[simp] theorem starK_tup (g : GV) (ρ : Rho) (xs : List D) : starK g ρ (.tup xs) = (g ρ).bind fun q => .ok (xs ++ q.1, q.2) := rfl
@[simp] theorem starK_lst (g : GV) (ρ : Rho) (xs : List D) : starK g ρ (.lst xs) = (g ρ).bind fun q => .ok (xs ++ q.1, q.2) := rfl
@[simp] theorem gvStar_app (f : EV) (g : GV) (ρ : Rho) : gvStar f g ρ = (Ft.settle f ρ).bind fun p => (Res.of (look p.2 p.1)).bind (starK g p.2) := by
  unfold gvStar
  show Res.bind _ _ = _
  cases Ft.settle f ρ with
  | bad => rfl
  | ok p =>
    simp only [res_bindF]
    rfl
@[simp] theorem evTup_app (g : GV) (ρ : Rho) : evTup g ρ = (g ρ).bind fun p => if p.1.length ≤ 1000000 then .ok (.val (.tup p.1), p.2) else .bad := rfl
@[simp] theorem evLst_app (g : GV) (ρ : Rho) : evLst g ρ = (g ρ).bind fun p => if p.1.length ≤ 1000000 then .ok (.tmp (.lst p.1), p.2) else .bad := rfl
@[simp] theorem evNewD_app (ρ : Rho) : evNewD ρ = .ok (.tmp (.dct []), ρ) := rfl
@[simp] theorem evMth_app (t : Kd) (i : Nat) (op : Mop) (g : GV) (ρ : Rho) : evMth t i op g ρ = (Res.of (Rho.own ρ i)).bind fun d0 => if t.is d0 = true then (g ρ).bind fun p => (Res.of (Rho.own p.2 i)).bind fun d => (Res.of (op d p.1)).bind fun r => (Res.of (p.2.put i r.1)).bind fun ρ2 => .ok (.val r.2, ρ2) else .bad := rfl
@[simp] theorem evSl_app (f : EV) (p q : PV) (ρ : Rho) : evSl f p q ρ = (Ft.settle f ρ).bind fun a => (p a.2).bind fun l => (q l.2).bind fun u => (Res.of (look u.2 a.1)).bind fun d => (Res.of (dSl d l.1 u.1)).bind fun r => .ok (r, u.2) := rfl
@[simp] theorem pvNo_app (ρ : Rho) : pvNo ρ = .ok (none, ρ) := rfl
def pvK : Hd × Rho → Res (Option Int × Rho)
  | (.val (.int i), ρ) => .ok (some i, ρ)
  | _ => .bad
@[simp] theorem pvK_int (i : Int) (ρ : Rho) : pvK (.val (.int i), ρ) = .ok (some i, ρ) := rfl
@[simp] theorem pvOf_app (f : EV) (ρ : Rho) : pvOf f ρ = (f ρ).bind pvK := by
  unfold pvOf
  show Res.bind _ _ = _
  cases f ρ with
  | bad => rfl
  | ok p =>
    obtain ⟨h, r⟩ := p
    cases h with
    | val d => cases d <;> rfl
    | tmp d => rfl
    | slot i => rfl
/-! ### statements -/
def seqK (g : SV) : Out × Rho → Res (Out × Rho)
  | (.next, ρ) => g ρ
  | (o, ρ) => .ok (o, ρ)
@[simp] theorem seqK_next (g : SV) (ρ : Rho) : seqK g (.next, ρ) = g ρ := rfl
@[simp] theorem seqK_ret (g : SV) (h : Hd) (ρ : Rho) : seqK g (.ret h, ρ) = .ok (.ret h, ρ) := rfl
@[simp] theorem seqK_brk (g : SV) (ρ : Rho) : seqK g (.brk, ρ) = .ok (.brk, ρ) := rfl
@[simp] theorem seqK_cont (g : SV) (ρ : Rho) : seqK g (.cont, ρ) = .ok (.cont, ρ) := rfl
@[simp] theorem svSeq_app (f g : SV) (ρ : Rho) : svSeq f g ρ = (f ρ).bind (seqK g) := by
  unfold svSeq
  show Res.bind _ _ = _
  cases f ρ with
  | bad => rfl
  | ok p => obtain ⟨o, r⟩ := p; cases o <;> rfl
@[simp] theorem svNext_app (ρ : Rho) : svNext ρ = .ok (.next, ρ) := rfl
@[simp] theorem svBreak_app (ρ : Rho) : svBreak ρ = .ok (.brk, ρ) := rfl
@[simp] theorem svCont_app (ρ : Rho) : svCont ρ = .ok (.cont, ρ) := rfl
@[simp] theorem svBad_app (ρ : Rho) : svBad ρ = .bad := rfl
@[simp] theorem svExpr_app (f : EV) (ρ : Rho) : svExpr f ρ = (f ρ).bind fun p => .ok (.next, p.2) := rfl
@[simp] theorem svRet_app (f : EV) (ρ : Rho) : svRet f ρ = (f ρ).bind fun p => .ok (.ret p.1, p.2) := rfl
@[simp] theorem svRetN_app (ρ : Rho) : svRetN ρ = .ok (.ret (.val .non), ρ) := rfl
@[simp] theorem svIf_app (c : BV) (f g : SV) (ρ : Rho) : svIf c f g ρ = (c ρ).bind fun p => if p.1 = true then f p.2 else g p.2 := rfl
@[simp] theorem svSet_app (i : Nat) (f : EV) (ρ : Rho) : svSet i f ρ = (keep f ρ).bind fun p => (Res.of (p.2.store i p.1)).bind fun ρ2 => .ok (.next, ρ2) := rfl
@[simp] theorem svAsg_app (g : GT) (f : EV) (ρ : Rho) : svAsg g f ρ = (given f ρ).bind fun p => (Res.of (g p.1 p.2)).bind fun ρ2 => .ok (.next, ρ2) := rfl
@[simp] theorem svSub_app (i : Nat) (fk f : EV) (ρ : Rho) : svSub i fk f ρ = (given f ρ).bind fun p => (Res.of (Rho.own p.2 i)).bind fun _ => (Ft.settle fk p.2).bind fun q => (Res.of (look q.2 q.1)).bind fun dk => (Res.of (Rho.own q.2 i)).bind fun d0 => (Res.of (sSet d0 dk p.1)).bind fun d' => (Res.of (q.2.put i d')).bind fun ρ3 => .ok (.next, ρ3) := rfl
@[simp] theorem svPar_app (i j : Nat) (fa fb : EV) (ρ : Rho) : svPar i j fa fb ρ = (keep fa ρ).bind fun p => (keep fb p.2).bind fun q => (Res.of (q.2.store i p.1)).bind fun ρ3 => (Res.of (ρ3.store j q.1)).bind fun ρ4 => .ok (.next, ρ4) := rfl
@[simp] theorem svPar3_app (i j l : Nat) (fa fb fc : EV) (ρ : Rho) : svPar3 i j l fa fb fc ρ = (keep fa ρ).bind fun p => (keep fb p.2).bind fun q => (keep fc q.2).bind fun r => (Res.of (r.2.store i p.1)).bind fun ρ3 => (Res.of (ρ3.store j q.1)).bind fun ρ4 => (Res.of (ρ4.store l r.1)).bind fun ρ5 => .ok (.next, ρ5) := rfl
@[simp] theorem svFor_app (it : IV) (g : GT) (body : SV) (ρ : Rho) : svFor it g body ρ = (it ρ).bind fun p => forLoop g body p.1 p.2 := rfl
@[simp] theorem gtName_app (i : Nat) (d : D) (ρ : Rho) : gtName i d ρ = ρ.store i (.val d) := rfl
@[simp] theorem gtTup_lst (n : Nat) (r : GTs) (ds : List D) (ρ : Rho) : gtTup n r (.lst ds) ρ = if ds.length = n then r ds ρ else none := rfl
@[simp] theorem gtTup_app (n : Nat) (r : GTs) (ds : List D) (ρ : Rho) : gtTup n r (.tup ds) ρ = if ds.length = n then r ds ρ else none := rfl
@[simp] theorem gtNil_app (ρ : Rho) : gtNil [] ρ = some ρ := rfl
@[simp] theorem gtCons_app (g : GT) (r : GTs) (d : D) (ds : List D) (ρ : Rho) : gtCons g r (d :: ds) ρ = (g d ρ).bind fun ρ1 => r ds ρ1 := rfl
@[simp] theorem ivOf_app (f : EV) (ρ : Rho) : ivOf f ρ = (given f ρ).bind fun p => (Res.of (itemsOf p.1)).bind fun ds => .ok (ds, p.2) := rfl
/-! ### calls -/
@[simp] theorem cvNil_app (ρ : Rho) : cvNil ρ = .ok ([], ρ) := rfl
@[simp] theorem cvFr_app (f : EV) (g : CV) (ρ : Rho) : cvFr f g ρ = (given f ρ).bind fun p => (g p.2).bind fun q => .ok (.fr p.1 :: q.1, q.2) := rfl
@[simp] theorem cvLn_app (i : Nat) (g : CV) (ρ : Rho) : cvLn i g ρ = (Res.of (Rho.own ρ i)).bind fun _ => (g ρ).bind fun q => .ok (.ln i :: q.1, q.2) := rfl
@[simp] theorem haData_nil (ρ : Rho) : haData ρ [] = some [] := rfl
@[simp] theorem haData_fr (ρ : Rho) (d : D) (hs : List HA) : haData ρ (.fr d :: hs) = (haData ρ hs).bind fun ds => some (d :: ds) := by
  rw [haData]
  cases haData ρ hs <;> rfl
@[simp] theorem haData_ln (ρ : Rho) (i : Nat) (hs : List HA) : haData ρ (.ln i :: hs) = (Rho.own ρ i).bind fun d => (haData ρ hs).bind fun ds => some (d :: ds) := by
  rw [haData]
  cases Rho.own ρ i <;> cases haData ρ hs <;> rfl
@[simp] theorem haSlots_nil : haSlots [] = [] := rfl
@[simp] theorem haSlots_fr (d : D) (hs : List HA) : haSlots (.fr d :: hs) = haSlots hs := rfl
@[simp] theorem haSlots_ln (i : Nat) (hs : List HA) : haSlots (.ln i :: hs) = i :: haSlots hs := rfl
@[simp] theorem lent_fr (d : D) : HA.lent (.fr d) = false := rfl
@[simp] theorem lent_ln (i : Nat) : HA.lent (.ln i) = true := rfl
@[simp] theorem puts_nil (ρ : Rho) : puts ρ [] [] = some ρ := rfl
@[simp] theorem puts_cons (ρ : Rho) (i : Nat) (is : List Nat) (d : D) (ds : List D) : puts ρ (i :: is) (d :: ds) = (ρ.put i d).bind fun ρ1 => puts ρ1 is ds := rfl
@[simp] theorem evCall_app (ms : List Bool) (fn : FnV) (dds : List D) (g : CV) (ρ : Rho) : evCall ms fn dds g ρ = (g ρ).bind fun p => (Res.of (haData p.2 p.1)).bind fun ds =>
    if (decide (p.1.map HA.lent ++ dds.map (fun _ => false) = ms) && decide (haSlots p.1).Nodup) = true then (fn (ds ++ dds)).bind fun r => (Res.of (puts p.2 (haSlots p.1) r.2)).bind fun ρ2 => .ok (r.1, ρ2) else .bad := rfl
@[simp] theorem initR_nil (ds : List D) : initR [] ds = [] := by cases ds <;> rfl
@[simp] theorem initR_fr (ms : List Bool) (d : D) (ds : List D) : initR (false :: ms) (d :: ds) = .sh d :: initR ms ds := rfl
@[simp] theorem initR_ln (ms : List Bool) (d : D) (ds : List D) : initR (true :: ms) (d :: ds) = .ln d :: initR ms ds := rfl
@[simp] theorem lentOut_nil (ρ : Rho) (k : Nat) : lentOut ρ k [] = some [] := rfl
@[simp] theorem lentOut_fr (ρ : Rho) (k : Nat) (ms : List Bool) : lentOut ρ k (false :: ms) = lentOut ρ (k + 1) ms := rfl
@[simp] theorem lentOut_ln (ρ : Rho) (k : Nat) (ms : List Bool) : lentOut ρ k (true :: ms) = (Rho.own ρ k).bind fun d => (lentOut ρ (k + 1) ms).bind fun ds => some (d :: ds) := by
  rw [lentOut]
  cases Rho.own ρ k <;> cases lentOut ρ (k + 1) ms <;> rfl
@[simp] theorem outHd_next (ρ : Rho) : outHd ρ .next = some (.val .non) := rfl
@[simp] theorem outHd_val (ρ : Rho) (d : D) : outHd ρ (.ret (.val d)) = some (.val d) := rfl
@[simp] theorem outHd_tmp (ρ : Rho) (d : D) : outHd ρ (.ret (.tmp d)) = some (.tmp d) := rfl
def outAt : Option Slot → Option Hd
  | some (.ow d) => some (.tmp d)
  | _ => none
@[simp] theorem outAt_ow (d : D) : outAt (some (.ow d)) = some (.tmp d) := rfl
@[simp] theorem outHd_slot (ρ : Rho) (i : Nat) : outHd ρ (.ret (.slot i)) = outAt ρ[i]? := by
  unfold outAt
  rfl
theorem fnOf_app (n : Nat) (ms : List Bool) (body : SV) (ds : List D) : fnOf n ms body ds = (body (initR ms ds ++ List.replicate n .no)).bind fun p => (Res.of (outHd p.2 p.1)).bind fun r => (Res.of (lentOut p.2 0 ms)).bind fun ls => .ok (r, ls) := rfl
/-! ### operations -/
@[simp] theorem dAdd_int (i j : Int) : dAdd (.int i) (.int j) = some (.val (.int (i + j))) := rfl
@[simp] theorem dSub_int (i j : Int) : dSub (.int i) (.int j) = some (.val (.int (i - j))) := rfl
@[simp] theorem dMul_int (i j : Int) : dMul (.int i) (.int j) = if (in64 i || in64 j) = true then some (.val (.int (i * j))) else none := rfl
@[simp] theorem dFdiv_int (i j : Int) : dFdiv (.int i) (.int j) = if (decide (0 < j) && decide (j < 1073741824)) = true then some (.val (.int (i / j))) else none := rfl
@[simp] theorem dMod_int (i j : Int) : dMod (.int i) (.int j) = if 0 < j then some (.val (.int (i % j))) else none := rfl
@[simp] theorem dInt_int (i : Int) : dInt [.int i] = some (.val (.int i)) := rfl
@[simp] theorem dGt_int (i j : Int) : dGt (.int i) (.int j) = some (.val (.bl (decide (j < i)))) := rfl
@[simp] theorem dLt_int (i j : Int) : dLt (.int i) (.int j) = some (.val (.bl (decide (i < j)))) := rfl
@[simp] theorem dLe_int (i j : Int) : dLe (.int i) (.int j) = some (.val (.bl (decide (i ≤ j)))) := rfl
@[simp] theorem dGe_int (i j : Int) : dGe (.int i) (.int j) = some (.val (.bl (decide (j ≤ i)))) := rfl
theorem resbind_congr {α β : Type} {a b : Res α} {f : α → Res β} (h : a = b) : Res.bind a f = Res.bind b f := by rw [h]
theorem dIx_lst (ds : List D) (i : Int) : dIx (.lst ds) (.int i) = ((ixN ds.length i).bind fun j => ds[j]?).map Hd.val := by
  rfl
theorem dIx_tup (ds : List D) (i : Int) : dIx (.tup ds) (.int i) = ((ixN ds.length i).bind fun j => ds[j]?).map Hd.val := by
  rfl
theorem dIx_dct (kvs : List (Key × D)) (k : D) : dIx (.dct kvs) k = ((dKey k).bind fun k => atK kvs k).map Hd.val := by
  cases k <;> first | rfl | (show Option.bind _ _ = _; simp)
theorem dIx_at (ds : List D) (i : Nat) (d : D) (h : ds[i]? = some d) : dIx (.lst ds) (.int (i : Int)) = some (.val d) := by
  rw [dIx_lst]
  have hl : i < ds.length := by
    rcases Nat.lt_or_ge i ds.length with z | z
    · exact z
    · rw [List.getElem?_eq_none z] at h; cases h
  have : ixN ds.length (i : Int) = some i := by
    unfold ixN
    rw [if_pos (by omega), if_pos (by omega)]
    simp
  rw [this]
  simp [h]
@[simp] theorem dKey_str (x : Str) : dKey (.str x) = some (.inr x) := rfl
@[simp] theorem dKey_int (x : Int) : dKey (.int x) = some (.inl x) := rfl

def chainE (ρ : Rho) : Hd → Res (Hd × Rho)
  | .val (.bl b) => .ok (.val (.bl b), ρ)
  | _ => .bad
@[simp] theorem chainE_bl (ρ : Rho) (b : Bool) : chainE ρ (.val (.bl b)) = .ok (.val (.bl b), ρ) := rfl
def chainK (op' : Op2) (fc : EV) (h2 : Hd) (ρ2 : Rho) : Hd → Res (Hd × Rho)
  | .val (.bl true) => (Ft.settle fc ρ2).bind fun p => (Res.of (look p.2 h2)).bind fun d2 => (Res.of (look p.2 p.1)).bind fun d3 => (Res.of (op' d2 d3)).bind (chainE p.2)
  | .val (.bl false) => .ok (.val (.bl false), ρ2)
  | _ => .bad
@[simp] theorem chainK_true (op' : Op2) (fc : EV) (h2 : Hd) (ρ2 : Rho) : chainK op' fc h2 ρ2 (.val (.bl true)) = (Ft.settle fc ρ2).bind fun p => (Res.of (look p.2 h2)).bind fun d2 => (Res.of (look p.2 p.1)).bind fun d3 => (Res.of (op' d2 d3)).bind (chainE p.2) := rfl
@[simp] theorem chainK_false (op' : Op2) (fc : EV) (h2 : Hd) (ρ2 : Rho) : chainK op' fc h2 ρ2 (.val (.bl false)) = .ok (.val (.bl false), ρ2) := rfl
theorem res_con {α β : Type} {f g : α → Res β} (h : ∀ a, f a = g a) (x : Res α) : Res.bind x f = Res.bind x g := by rw [funext h]
@[simp] theorem evChain_app (op op' : Op2) (fa fb fc : EV) (ρ : Rho) : evChain op op' fa fb fc ρ = (Ft.settle fa ρ).bind fun p => (Ft.settle fb p.2).bind fun q => (Res.of (look q.2 p.1)).bind fun d1 => (Res.of (look q.2 q.1)).bind fun d2 => (Res.of (op d1 d2)).bind (chainK op' fc q.1 q.2) := by
  unfold evChain
  refine res_con (fun p => res_con (fun q => res_con (fun d1 => res_con (fun d2 => res_con (fun r => ?_) _) _) _) _) _
  unfold chainK
  cases r with
  | val d =>
    cases d with
    | bl b =>
      cases b with
      | false => rfl
      | true =>
        refine res_con (fun p3 => res_con (fun e2 => res_con (fun e3 => res_con (fun r => ?_) _) _) _) _
        unfold chainE
        cases r with
        | val d => cases d <;> rfl
        | tmp d => rfl
        | slot i => rfl
    | _ => rfl
  | tmp d => rfl
  | slot i => rfl
@[simp] theorem cvAtm_app (n : Nat) (g : CV) (ρ : Rho) : cvAtm n g ρ = (g ρ).bind fun p => .ok (.fr (.atm n) :: p.1, p.2) := rfl
end Ft
set_option Elab.async false
set_option linter.all false
set_option maxRecDepth 100000
set_option maxHeartbeats 4000000
/-! FtW: texts as plain data: order, membership, equality. -/
namespace Ft
open PySem PySem.Spec PySem.Calls PyProof.Rows L2 PySem.W

def sLt (x y : Str) : Bool := decide (x.cps.toList < y.cps.toList)
def sLe (x y : Str) : Bool := dataLe false encD (.str x) (.str y)
theorem sLe_eq (x y : Str) : sLe x y = !sLt y x := by
  have h := dataLt_str y x
  unfold sLe sLt dataLe
  show (!(PyProof.Rows.lexLt itemOrd (keyToks (encD (.str y))) (keyToks (encD (.str x))))) = _
  show (!(dataLt (.str y) (.str x))) = _
  rw [h]
theorem cps_inj {x y : Str} (h : x.cps.toList = y.cps.toList) : x = y := by
  cases x; cases y
  simp only [Str.mk.injEq]
  exact Array.toList_inj.mp h
theorem sLt_irrefl (x : Str) : sLt x x = false := by
  unfold sLt
  exact decide_eq_false (List.lt_irrefl _)
theorem sLt_trans {x y z : Str} (a : sLt x y = true) (b : sLt y z = true) : sLt x z = true := by
  unfold sLt at *
  exact decide_eq_true (List.lt_trans (of_decide_eq_true a) (of_decide_eq_true b))
theorem sLt_total {x y : Str} (h : x ≠ y) : sLt x y = true ∨ sLt y x = true := by
  unfold sLt
  by_cases a : x.cps.toList < y.cps.toList
  · exact .inl (decide_eq_true a)
  · by_cases b : y.cps.toList < x.cps.toList
    · exact .inr (decide_eq_true b)
    · exact absurd (cps_inj (List.le_antisymm (List.not_lt.mp b) (List.not_lt.mp a))) h
theorem sLe_total (x y : Str) : (sLe x y || sLe y x) = true := by
  rw [sLe_eq, sLe_eq]
  cases h : sLt x y <;> cases h2 : sLt y x <;> simp
  have := sLt_trans h h2
  rw [sLt_irrefl] at this; cases this
theorem sLe_trans (x y z : Str) (a : sLe x y = true) (b : sLe y z = true) : sLe x z = true := by
  rw [sLe_eq] at *
  simp only [Bool.not_eq_true'] at *
  by_cases e : x = y
  · subst e; exact b
  · by_cases e2 : y = z
    · subst e2; exact a
    · have h1 := (sLt_total e).resolve_right (by rw [a]; exact Bool.false_ne_true)
      have h2 := (sLt_total e2).resolve_right (by rw [b]; exact Bool.false_ne_true)
      have h3 := sLt_trans h1 h2
      cases h4 : sLt z x with
      | false => rfl
      | true =>
        have := sLt_trans h3 h4
        rw [sLt_irrefl] at this; cases this
theorem sLe_antisymm {x y : Str} (a : sLe x y = true) (b : sLe y x = true) : x = y := by
  rw [sLe_eq] at *
  simp only [Bool.not_eq_true'] at *
  by_cases e : x = y
  · exact e
  · rcases sLt_total e with h | h
    · rw [h] at b; cases b
    · rw [h] at a; cases a
def sortS (xs : List Str) : List Str := xs.mergeSort sLe
theorem sortS_perm (xs : List Str) : (sortS xs).Perm xs := List.mergeSort_perm xs sLe
@[simp] theorem mem_sortS {xs : List Str} {x : Str} : x ∈ sortS xs ↔ x ∈ xs := (sortS_perm xs).mem_iff
@[simp] theorem sortS_length (xs : List Str) : (sortS xs).length = xs.length := (sortS_perm xs).length_eq
theorem sortS_pair (xs : List Str) : (sortS xs).Pairwise (fun x y => sLe x y = true) := List.pairwise_mergeSort sLe_trans sLe_total xs
theorem sortS_nodup {xs : List Str} (h : xs.Nodup) : (sortS xs).Nodup := (sortS_perm xs).nodup_iff.mpr h
/-- strictly ascending -/
def Asc (xs : List Str) : Prop := xs.Pairwise fun x y => sLt x y = true
theorem asc_nodup {xs : List Str} (h : Asc xs) : xs.Nodup := by
  refine List.Pairwise.imp ?_ h
  intro a b z e
  subst e
  rw [sLt_irrefl] at z; cases z
theorem pair_asc : ∀ {xs : List Str}, xs.Pairwise (fun x y => sLe x y = true) → xs.Nodup → Asc xs
  | [], _, _ => .nil
  | x :: xs, h, n => by
    rw [List.pairwise_cons] at h
    rw [List.nodup_cons] at n
    refine List.pairwise_cons.mpr ⟨fun y hy => ?_, pair_asc h.2 n.2⟩
    have q := h.1 y hy
    rw [sLe_eq] at q
    simp only [Bool.not_eq_true'] at q
    have ne : x ≠ y := fun e => n.1 (e ▸ hy)
    exact (sLt_total ne).resolve_right (by rw [q]; exact Bool.false_ne_true)
theorem sortS_asc {xs : List Str} (h : xs.Nodup) : Asc (sortS xs) := pair_asc (sortS_pair xs) (sortS_nodup h)
theorem asc_pair {xs : List Str} (h : Asc xs) : xs.Pairwise (fun x y => sLe x y = true) := h.imp fun {a b} z => by
  rw [sLe_eq]
  cases q : sLt b a with
  | false => rfl
  | true =>
    have := sLt_trans z q
    rw [sLt_irrefl] at this; cases this
theorem perm_asc {xs ys : List Str} (p : xs.Perm ys) (a : Asc xs) (b : Asc ys) : xs = ys :=
  p.eq_of_pairwise (fun x y _ _ h1 h2 => sLe_antisymm h1 h2) (asc_pair a) (asc_pair b)
theorem sortS_of_asc {xs : List Str} (a : Asc xs) : sortS xs = xs := perm_asc (sortS_perm xs) (sortS_asc (asc_nodup a)) a
theorem sortS_congr {xs ys : List Str} (p : xs.Perm ys) : sortS xs = sortS ys :=
  ((sortS_perm xs).trans (p.trans (sortS_perm ys).symm)).eq_of_pairwise (fun x y _ _ h1 h2 => sLe_antisymm h1 h2) (sortS_pair xs) (sortS_pair ys)
/-- of the same members, both without repeats -/
theorem sortS_same {xs ys : List Str} (n : xs.Nodup) (m : ys.Nodup) (h : ∀ x, x ∈ xs ↔ x ∈ ys) : sortS xs = sortS ys :=
  sortS_congr ((List.perm_ext_iff_of_nodup n m).mpr h)
theorem asc_same {xs ys : List Str} (n : Asc xs) (m : Asc ys) (h : ∀ x, x ∈ xs ↔ x ∈ ys) : xs = ys :=
  perm_asc ((List.perm_ext_iff_of_nodup (asc_nodup n) (asc_nodup m)).mpr h) n m

/-! ### texts in data -/
def ss (xs : List Str) : List D := xs.map D.str
theorem ss_eq (xs : List Str) : ss xs = xs.map D.str := rfl
@[simp] theorem ss_len (xs : List Str) : (ss xs).length = xs.length := List.length_map ..
@[simp] theorem ss_app (xs ys : List Str) : ss xs ++ ss ys = ss (xs ++ ys) := List.map_append.symm
@[simp] theorem ss_cut (xs : List Str) (lo hi : Option Int) : cut (ss xs) lo hi = ss (cut xs lo hi) := by
  unfold cut
  rw [ss_len]
  show ((xs.map D.str).drop _).take _ = ((xs.drop _).take _).map D.str
  rw [← List.map_drop, ← List.map_take]
@[simp] theorem py_str (x : Str) : D.py (.str x) = some (.str x) := rfl
@[simp] theorem py_int (x : Int) : D.py (.int x) = some (.int x) := rfl
@[simp] theorem py_non : D.py .non = some .none := rfl
@[simp] theorem py_bl (b : Bool) : D.py (.bl b) = some (.bool b) := rfl
@[simp] theorem pys_ss : ∀ xs : List Str, D.pys (ss xs) = some (xs.map PyData.str)
  | [] => rfl
  | x :: xs => by
    show D.pys (D.str x :: ss xs) = _
    rw [D.pys, pys_ss xs]
    rfl
theorem encD_str (x : Str) : encD (.str x) = .str x := rfl
theorem sortD_ss (xs : List Str) : sortD (ss xs) = some (.tmp (.lst (ss (sortS xs)))) := by
  unfold sortD
  have ok : sortOk (ss xs) = true := by
    unfold sortOk
    simp only [ss, Bool.and_eq_true, Bool.or_eq_true, List.all_eq_true, List.mem_map, alikeB]
    refine ⟨⟨?_, ?_⟩, .inr ?_⟩
    · rintro d ⟨x, _, rfl⟩; exact ⟨rfl, rfl⟩
    · rintro p ⟨d, ⟨x, _, rfl⟩, rfl⟩ q ⟨e, ⟨y, _, rfl⟩, rfl⟩; rfl
    · rintro p ⟨d, ⟨x, _, rfl⟩, rfl⟩; rfl
  rw [if_pos ok]
  have e : (sortS xs).map D.str = (xs.map D.str).mergeSort (dataLe false encD) := List.map_mergeSort fun a _ b _ => rfl
  rw [show ss (sortS xs) = _ from e]
  rfl
@[simp] theorem dSorted_lst (xs : List Str) : dSorted [.lst (ss xs)] = some (.tmp (.lst (ss (sortS xs)))) := sortD_ss xs
@[simp] theorem dSorted_tup (xs : List Str) : dSorted [.tup (ss xs)] = some (.tmp (.lst (ss (sortS xs)))) := sortD_ss xs
@[simp] theorem eqv_str (x y : Str) : PyData.eqv (.str x) (.str y) = decide (x = y) := by
  rw [PyData.eqv]
  by_cases h : x = y
  · subst h; simp
  · simp [h]
theorem eqvAll_ss : ∀ xs ys : List Str, PyData.eqvAll (xs.map PyData.str) (ys.map PyData.str) = decide (xs = ys)
  | [], [] => rfl
  | [], _ :: _ => rfl
  | _ :: _, [] => rfl
  | x :: xs, y :: ys => by
    rw [List.map_cons, List.map_cons, PyData.eqvAll, eqvAll_ss xs ys, eqv_str]
    simp
theorem depth_ss : ∀ xs : List Str, PyData.depth (.list (xs.map PyData.str)) ≤ 60 ∧ PyData.depth (.tuple (xs.map PyData.str)) ≤ 60 := by
  intro xs
  have h : ∀ ys : List Str, PyData.depthAll (ys.map PyData.str) ≤ 1 := by
    intro ys
    induction ys with
    | nil => simp [PyData.depthAll]
    | cons y ys ih => simp only [List.map_cons, PyData.depthAll, PyData.depth]; omega
  have := h xs
  simp only [PyData.depth]
  omega
@[simp] theorem dEqB_str (x y : Str) : dEqB (.str x) (.str y) = some (decide (x = y)) := by
  unfold dEqB
  simp [flatEnough, PyData.depth]
@[simp] theorem dEqB_lst (xs ys : List Str) : dEqB (.lst (ss xs)) (.lst (ss ys)) = some (decide (xs = ys)) := by
  unfold dEqB
  simp only [D.py, pys_ss, Option.map_some, flatEnough, decide_eq_true (depth_ss xs).1, if_true, PyData.eqv, eqvAll_ss]
@[simp] theorem ss_nil : ss [] = [] := rfl
@[simp] theorem dEqB_lst_nil (xs : List Str) : dEqB (.lst (ss xs)) (.lst []) = some (decide (xs = [])) := dEqB_lst xs []
@[simp] theorem dEqB_nil_nil : dEqB (.lst []) (.lst []) = some true := dEqB_lst [] []
@[simp] theorem dEqB_tup (xs ys : List Str) : dEqB (.tup (ss xs)) (.tup (ss ys)) = some (decide (xs = ys)) := by
  unfold dEqB
  simp only [D.py, pys_ss, Option.map_some, flatEnough, decide_eq_true (depth_ss xs).2, if_true, PyData.eqv, eqvAll_ss]
@[simp] theorem dInB_lst (x : Str) (ys : List Str) : dInB (.str x) (.lst (ss ys)) = some (decide (x ∈ ys)) := by
  unfold dInB
  simp only [py_str, pys_ss, flatEnough, PyData.depth]
  simp only [Nat.zero_le, decide_true, if_true, Option.some.injEq]
  rw [Bool.eq_iff_iff]
  simp [List.any_eq_true, eqv_str]
@[simp] theorem dInB_tup (x : Str) (ys : List Str) : dInB (.str x) (.tup (ss ys)) = some (decide (x ∈ ys)) := by
  unfold dInB
  simp only [py_str, pys_ss, flatEnough, PyData.depth]
  simp only [Nat.zero_le, decide_true, if_true, Option.some.injEq]
  rw [Bool.eq_iff_iff]
  simp [List.any_eq_true, eqv_str]
@[simp] theorem dInB_dct (x : Str) (kvs : List (Key × D)) : dInB (.str x) (.dct kvs) = some (atK kvs (.inr x)).isSome := rfl
@[simp] theorem dEq_eq (d e : D) : dEq d e = (dEqB d e).map fun b => .val (.bl b) := rfl
@[simp] theorem dNe_eq (d e : D) : dNe d e = (dEqB d e).map fun b => .val (.bl (!b)) := rfl
@[simp] theorem dIn_eq (d e : D) : dIn d e = (dInB d e).map fun b => .val (.bl b) := rfl
@[simp] theorem dNotIn_eq (d e : D) : dNotIn d e = (dInB d e).map fun b => .val (.bl (!b)) := rfl
@[simp] theorem dKeys_ss : ∀ xs : List Str, dKeys (ss xs) = some (xs.map Sum.inr)
  | [] => rfl
  | x :: xs => by
    show dKeys (D.str x :: ss xs) = _
    rw [dKeys, dKeys_ss xs]
    rfl
/-! sets of texts -/
def dedup (xs : List Str) : List Str := xs.foldl (fun acc x => if x ∈ acc then acc else acc ++ [x]) []
theorem dedupK_ss (xs : List Str) : dedupK (xs.map Sum.inr) = (dedup xs).map Sum.inr := by
  unfold dedupK dedup
  suffices ∀ (ys acc : List Str), (ys.map Sum.inr).foldl addK (acc.map Sum.inr : List Key) = (ys.foldl (fun acc x => if x ∈ acc then acc else acc ++ [x]) acc).map Sum.inr from this xs []
  intro ys
  induction ys with
  | nil => intro acc; rfl
  | cons y ys ih =>
    intro acc
    rw [List.map_cons, List.foldl_cons, List.foldl_cons, ← ih]
    congr 1
    unfold addK hasK
    by_cases h : y ∈ acc
    · rw [if_pos h, if_pos]
      simp [h]
    · rw [if_neg h, if_neg]
      · simp
      · simp [h]
theorem dedup_spec (xs : List Str) : (dedup xs).Nodup ∧ (∀ x, x ∈ dedup xs ↔ x ∈ xs) ∧ (dedup xs).length ≤ xs.length ∧ (xs.Nodup → dedup xs = xs) ∧ (¬ xs.Nodup → (dedup xs).length < xs.length) := by
  unfold dedup
  suffices ∀ (ys acc : List Str), acc.Nodup → (ys.foldl (fun acc x => if x ∈ acc then acc else acc ++ [x]) acc).Nodup ∧ (∀ x, x ∈ (ys.foldl (fun acc x => if x ∈ acc then acc else acc ++ [x]) acc) ↔ x ∈ acc ∨ x ∈ ys) ∧ (ys.foldl (fun acc x => if x ∈ acc then acc else acc ++ [x]) acc).length ≤ acc.length + ys.length ∧
      ((acc ++ ys).Nodup → (ys.foldl (fun acc x => if x ∈ acc then acc else acc ++ [x]) acc) = acc ++ ys) ∧ (¬ (acc ++ ys).Nodup → (ys.foldl (fun acc x => if x ∈ acc then acc else acc ++ [x]) acc).length < acc.length + ys.length) by
    have h := this xs [] List.nodup_nil
    simpa using h
  intro ys
  induction ys with
  | nil => intro acc h; simp [h]
  | cons y ys ih =>
    intro acc h
    rw [List.foldl_cons]
    by_cases e : y ∈ acc
    · rw [if_pos e]
      obtain ⟨h1, h2, h3, h4, h5⟩ := ih acc h
      refine ⟨h1, fun x => ?_, by simp; omega, fun n => ?_, fun _ => by simp; omega⟩
      · rw [h2, List.mem_cons]
        constructor
        · rintro (a | a)
          · exact .inl a
          · exact .inr (.inr a)
        · rintro (a | a | a)
          · exact .inl a
          · subst a; exact .inl e
          · exact .inr a
      · rw [List.nodup_append] at n
        exact absurd rfl (n.2.2 y e y (List.mem_cons_self ..))
    · rw [if_neg e]
      have hn : (acc ++ [y]).Nodup := by
        rw [List.nodup_append]
        refine ⟨h, by simp, fun a ha b hb => ?_⟩
        rw [List.mem_singleton] at hb
        subst hb
        exact fun z => e (z ▸ ha)
      obtain ⟨h1, h2, h3, h4, h5⟩ := ih (acc ++ [y]) hn
      refine ⟨h1, fun x => ?_, by simp at h3 ⊢; omega, fun n => ?_, fun n => ?_⟩
      · rw [h2]
        simp only [List.mem_append, List.mem_singleton, List.mem_cons, or_assoc]
        simp
      · rw [h4 (by rw [List.append_assoc]; exact n), List.append_assoc]
        rfl
      · have := h5 (by rw [List.append_assoc]; exact n)
        simp at this ⊢
        omega
theorem dedup_of_nodup {xs : List Str} (h : xs.Nodup) : dedup xs = xs := (dedup_spec xs).2.2.2.1 h
@[simp] theorem mem_dedup {xs : List Str} {x : Str} : x ∈ dedup xs ↔ x ∈ xs := (dedup_spec xs).2.1 x
theorem dedup_nodup (xs : List Str) : (dedup xs).Nodup := (dedup_spec xs).1
theorem dedup_len (xs : List Str) : (dedup xs).length ≤ xs.length := (dedup_spec xs).2.2.1
@[simp] theorem dEqB_tup_nil (xs : List Str) : dEqB (.tup (ss xs)) (.tup []) = some (decide (xs = [])) := dEqB_tup xs []
@[simp] theorem dEqB_tup_nil2 : dEqB (.tup []) (.tup []) = some true := dEqB_tup [] []
theorem kD_inr (xs : List Str) : (xs.map Sum.inr : List Key).map kD = ss xs := by
  rw [List.map_map]
  rfl
def sks (xs : List Str) : List Key := xs.map Sum.inr
@[simp] theorem sks_len (xs : List Str) : (sks xs).length = xs.length := List.length_map ..
@[simp] theorem setItems_lst (xs : List Str) : setItems (.lst (ss xs)) = some (sks xs) := dKeys_ss xs
@[simp] theorem setItems_tup (xs : List Str) : setItems (.tup (ss xs)) = some (sks xs) := dKeys_ss xs
@[simp] theorem sks_sort (xs : List Str) : sortD ((dedupK (sks xs)).map kD) = some (.tmp (.lst (ss (sortS (dedup xs))))) := by
  unfold sks
  rw [dedupK_ss, kD_inr, sortD_ss]
@[simp] theorem sks_dedup (xs : List Str) : (dedupK (sks xs)).length = (dedup xs).length := by
  unfold sks
  rw [dedupK_ss, List.length_map]
end Ft
set_option Elab.async false
set_option linter.all false
set_option maxRecDepth 100000
set_option maxHeartbeats 4000000
/-! FtX: the pure side: comprehensions and loops. -/
namespace Ft
open PySem PySem.Spec PySem.Calls PyProof.Rows L2 PySem.W

/-! ### comprehensions -/
def lcStep (g : GT) (tt : BV) (f : EV) (vs : List Nat) (d : D) (ρ : Rho) : Res (Option D × Rho) :=
  (Res.of (g d ρ)).bind fun ρ1 => (tt ρ1).bind fun p => if p.1 = true then (given f p.2).bind fun q => .ok (some q.1, q.2.wipe vs) else .ok (none, p.2.wipe vs)
theorem lcLoop_nil (g : GT) (tt : BV) (f : EV) (vs : List Nat) (ρ : Rho) : lcLoop g tt f vs [] ρ = .ok ([], ρ) := rfl
theorem lcLoop_cons (g : GT) (tt : BV) (f : EV) (vs : List Nat) (d : D) (ds : List D) (ρ : Rho) :
    lcLoop g tt f vs (d :: ds) ρ = (lcStep g tt f vs d ρ).bind fun p => (lcLoop g tt f vs ds p.2).bind fun q => .ok (p.1.toList ++ q.1, q.2) := by
  rw [lcLoop]
  unfold lcStep
  show Res.bind _ _ = _
  cases g d ρ with
  | none => rfl
  | some ρ1 =>
    simp only [res_of, res_bindF]
    show Res.bind _ _ = _
    cases tt ρ1 with
    | bad => rfl
    | ok p =>
      obtain ⟨b, r⟩ := p
      cases b with
      | true =>
        simp only [res_bindF, if_true]
        show Res.bind _ _ = _
        cases given f r with
        | bad => rfl
        | ok q => rfl
      | false =>
        simp only [res_bindF, Bool.false_eq_true, if_false, Option.toList, List.nil_append]
        show lcLoop g tt f vs ds _ = _
        cases lcLoop g tt f vs ds (Rho.wipe r vs) <;> rfl
/-- a comprehension that leaves all as it was -/
theorem lc_pure {α : Type} {g : GT} {tt : BV} {f : EV} {vs : List Nat} {em : α → D} {ρ0 : Rho} (h : α → Option D) : ∀ (xs : List α), (∀ x ∈ xs, lcStep g tt f vs (em x) ρ0 = .ok (h x, ρ0)) → lcLoop g tt f vs (xs.map em) ρ0 = .ok (xs.filterMap h, ρ0)
  | [], _ => rfl
  | x :: xs, hs => by
    rw [List.map_cons, lcLoop_cons, hs x (List.mem_cons_self ..), res_bindF, lc_pure h xs fun y hy => hs y (List.mem_cons_of_mem _ hy), res_bindF, List.filterMap_cons]
    cases h x <;> rfl
theorem lc_map {α : Type} {g : GT} {tt : BV} {f : EV} {vs : List Nat} {em : α → D} {ρ0 : Rho} (h : α → D) (xs : List α) (hs : ∀ x ∈ xs, lcStep g tt f vs (em x) ρ0 = .ok (some (h x), ρ0)) : lcLoop g tt f vs (xs.map em) ρ0 = .ok (xs.map h, ρ0) := by
  have := lc_pure (fun x => some (h x)) xs hs
  rw [this]
  congr 2
  clear this hs
  induction xs with
  | nil => rfl
  | cons x xs ih => rw [List.filterMap_cons, List.map_cons, ih]
theorem lc_filter {α : Type} {g : GT} {tt : BV} {f : EV} {vs : List Nat} {em : α → D} {ρ0 : Rho} (p : α → Bool) (h : α → D) (xs : List α) (hs : ∀ x ∈ xs, lcStep g tt f vs (em x) ρ0 = .ok (if p x = true then some (h x) else none, ρ0)) : lcLoop g tt f vs (xs.map em) ρ0 = .ok ((xs.filter p).map h, ρ0) := by
  have := lc_pure (fun x => if p x = true then some (h x) else none) xs hs
  rw [this]
  congr 2
  clear this hs
  induction xs with
  | nil => rfl
  | cons x xs ih =>
    rw [List.filterMap_cons, List.filter_cons]
    cases p x with
    | true => simp [ih]
    | false => simp [ih]
@[simp] theorem evLc_app (it : IV) (g : GT) (tt : BV) (f : EV) (vs : List Nat) (ρ : Rho) : evLc it g tt f vs ρ = (it ρ).bind fun p => if (p.2.idle vs && decide (p.1.length ≤ 1000000)) = true then (lcLoop g tt f vs p.1 (p.2.wipe vs)).bind fun q => .ok (.tmp (.lst q.1), p.2.unwipe q.2 vs) else .bad := rfl
@[simp] theorem bvYes_app (ρ : Rho) : bvYes ρ = .ok (true, ρ) := rfl
/-! dict comprehensions -/
def dcStep (g : GT) (tt : BV) (fk fv : EV) (vs : List Nat) (d : D) (ρ : Rho) : Res (Option (Key × D) × Rho) :=
  (Res.of (g d ρ)).bind fun ρ1 => (tt ρ1).bind fun p => if p.1 = true then (given fk p.2).bind fun q => (given fv q.2).bind fun r => (Res.of (dKey q.1)).bind fun k => .ok (some (k, r.1), r.2.wipe vs) else .ok (none, p.2.wipe vs)
def putO (acc : List (Key × D)) : Option (Key × D) → List (Key × D)
  | some kv => putD acc kv.1 kv.2
  | none => acc
theorem dcLoop_cons (g : GT) (tt : BV) (fk fv : EV) (vs : List Nat) (d : D) (ds : List D) (acc : List (Key × D)) (ρ : Rho) :
    dcLoop g tt fk fv vs (d :: ds) acc ρ = (dcStep g tt fk fv vs d ρ).bind fun p => dcLoop g tt fk fv vs ds (putO acc p.1) p.2 := by
  rw [dcLoop]
  unfold dcStep
  show Res.bind _ _ = _
  cases g d ρ with
  | none => rfl
  | some ρ1 =>
    simp only [res_of, res_bindF]
    show Res.bind _ _ = _
    cases tt ρ1 with
    | bad => rfl
    | ok p =>
      obtain ⟨b, r⟩ := p
      cases b with
      | true =>
        simp only [res_bindF, if_true]
        show Res.bind _ _ = _
        cases given fk r with
        | bad => rfl
        | ok q =>
          simp only [res_bindF]
          show Res.bind _ _ = _
          cases given fv q.2 with
          | bad => rfl
          | ok q2 =>
            simp only [res_bindF]
            show Res.bind _ _ = _
            cases dKey q.1 <;> rfl
      | false => rfl
theorem dc_pure {α : Type} {g : GT} {tt : BV} {fk fv : EV} {vs : List Nat} {em : α → D} {ρ0 : Rho} (h : α → Key × D) : ∀ (xs : List α) (acc : List (Key × D)), (∀ x ∈ xs, dcStep g tt fk fv vs (em x) ρ0 = .ok (some (h x), ρ0)) → dcLoop g tt fk fv vs (xs.map em) acc ρ0 = .ok (xs.foldl (fun a x => putD a (h x).1 (h x).2) acc, ρ0)
  | [], _, _ => rfl
  | x :: xs, acc, hs => by
    rw [List.map_cons, dcLoop_cons, hs x (List.mem_cons_self ..), res_bindF, dc_pure h xs _ fun y hy => hs y (List.mem_cons_of_mem _ hy), List.foldl_cons]
    rfl
theorem put_new {κ : Type} [DecidableEq κ] {acc : List (κ × D)} {k : κ} {v : D} (h : k ∉ acc.map (·.1)) : putD acc k v = acc ++ [(k, v)] := by
  unfold putD
  rw [if_neg]
  intro z
  obtain ⟨kv, hm, e⟩ := List.any_eq_true.mp z
  exact h (List.mem_map.mpr ⟨kv, hm, of_decide_eq_true e⟩)
theorem fold_new {α κ : Type} [DecidableEq κ] (h : α → κ × D) : ∀ (xs : List α) (acc : List (κ × D)), (acc.map (·.1) ++ xs.map fun x => (h x).1).Nodup → xs.foldl (fun a x => putD a (h x).1 (h x).2) acc = acc ++ xs.map h
  | [], acc, _ => by simp
  | x :: xs, acc, n => by
    rw [List.foldl_cons, put_new, fold_new h xs]
    · simp
    · simpa using n
    · intro z
      rw [List.nodup_append] at n
      exact n.2.2 _ z _ (List.mem_map.mpr ⟨x, List.mem_cons_self .., rfl⟩) rfl
/-- keys without repeats -/
theorem dc_new {α : Type} {g : GT} {tt : BV} {fk fv : EV} {vs : List Nat} {em : α → D} {ρ0 : Rho} (h : α → Key × D) (xs : List α) (n : (xs.map fun x => (h x).1).Nodup) (hs : ∀ x ∈ xs, dcStep g tt fk fv vs (em x) ρ0 = .ok (some (h x), ρ0)) : dcLoop g tt fk fv vs (xs.map em) [] ρ0 = .ok (xs.map h, ρ0) := by
  rw [dc_pure h xs [] hs, fold_new h xs [] (by simpa using n)]
  rfl
@[simp] theorem evDc_app (it : IV) (g : GT) (tt : BV) (fk fv : EV) (vs : List Nat) (ρ : Rho) : evDc it g tt fk fv vs ρ = (it ρ).bind fun p => if (p.2.idle vs && decide (p.1.length ≤ 1000000)) = true then (dcLoop g tt fk fv vs p.1 [] (p.2.wipe vs)).bind fun q => .ok (.tmp (.dct q.1), p.2.unwipe q.2 vs) else .bad := rfl
@[simp] theorem wipe_nil (ρ : Rho) : ρ.wipe [] = ρ := rfl
@[simp] theorem wipe_cons (ρ : Rho) (v : Nat) (vs : List Nat) : ρ.wipe (v :: vs) = (ρ.wipe vs).set v .no := rfl
def unwAt (ρe : Rho) (v : Nat) : Option Slot → Rho
  | some s => ρe.set v s
  | none => ρe
@[simp] theorem unwAt_some (ρe : Rho) (v : Nat) (s : Slot) : unwAt ρe v (some s) = ρe.set v s := rfl
@[simp] theorem unwipe_nil (ρ ρe : Rho) : ρ.unwipe ρe [] = ρe := rfl
@[simp] theorem unwipe_cons (ρ ρe : Rho) (v : Nat) (vs : List Nat) : ρ.unwipe ρe (v :: vs) = unwAt (ρ.unwipe ρe vs) v ρ[v]? := by
  rw [Rho.unwipe]
  unfold unwAt
  rfl
def idleAt : Option Slot → Bool
  | some .no => true
  | some (.sh _) => true
  | _ => false
@[simp] theorem idleAt_no : idleAt (some .no) = true := rfl
@[simp] theorem idleAt_sh (d : D) : idleAt (some (.sh d)) = true := rfl
@[simp] theorem idle_nil (ρ : Rho) : ρ.idle [] = true := rfl
@[simp] theorem idle_cons (ρ : Rho) (v : Nat) (vs : List Nat) : ρ.idle (v :: vs) = (idleAt ρ[v]? && ρ.idle vs) := by
  show List.all _ _ = _
  rw [List.all_cons]
  rfl

/-! ### slots that may be written -/
def Slot.free (s : Slot) : Prop := s = .no ∨ ∃ d, s = .sh d
theorem free_no : Slot.free .no := .inl rfl
theorem free_sh (d : D) : Slot.free (.sh d) := .inr ⟨d, rfl⟩
@[simp] theorem free_no' : Slot.free .no = True := eq_true free_no
@[simp] theorem free_sh' (d : D) : Slot.free (.sh d) = True := eq_true (free_sh d)
theorem storeAt_free {ρ : Rho} {i : Nat} {s t : Slot} (h : Slot.free t) : storeAt ρ i s (some t) = some (ρ.set i s) := by
  rcases h with rfl | ⟨d, rfl⟩ <;> rfl
theorem idleAt_free {t : Slot} (h : Slot.free t) : idleAt (some t) = true := by
  rcases h with rfl | ⟨d, rfl⟩ <;> rfl

/-! ### loops -/
@[simp] theorem forLoop_nil (g : GT) (body : SV) (ρ : Rho) : forLoop g body [] ρ = .ok (.next, ρ) := rfl
def forK (g : GT) (body : SV) (ds : List D) : Out × Rho → Res (Out × Rho)
  | (.next, ρ) => forLoop g body ds ρ
  | (.cont, ρ) => forLoop g body ds ρ
  | (.brk, ρ) => .ok (.next, ρ)
  | (.ret h, ρ) => .ok (.ret h, ρ)
@[simp] theorem forK_next (g : GT) (body : SV) (ds : List D) (ρ : Rho) : forK g body ds (.next, ρ) = forLoop g body ds ρ := rfl
@[simp] theorem forK_cont (g : GT) (body : SV) (ds : List D) (ρ : Rho) : forK g body ds (.cont, ρ) = forLoop g body ds ρ := rfl
@[simp] theorem forK_brk (g : GT) (body : SV) (ds : List D) (ρ : Rho) : forK g body ds (.brk, ρ) = .ok (.next, ρ) := rfl
@[simp] theorem forK_ret (g : GT) (body : SV) (ds : List D) (ρ : Rho) (h : Hd) : forK g body ds (.ret h, ρ) = .ok (.ret h, ρ) := rfl
def turn (g : GT) (body : SV) (d : D) (ρ : Rho) : Res (Out × Rho) := (Res.of (g d ρ)).bind body
theorem forLoop_cons (g : GT) (body : SV) (d : D) (ds : List D) (ρ : Rho) : forLoop g body (d :: ds) ρ = (turn g body d ρ).bind (forK g body ds) := by
  rw [forLoop]
  unfold turn
  show Res.bind _ _ = _
  cases g d ρ with
  | none => rfl
  | some ρ1 =>
    simp only [res_of, res_bindF]
    show Res.bind _ _ = _
    cases body ρ1 with
    | bad => rfl
    | ok p => obtain ⟨o, r⟩ := p; cases o <;> rfl
/-- a loop that goes through -/
theorem for_inv {α : Type} {g : GT} {body : SV} {em : α → D} (P : List α → Rho → Prop) : ∀ (xs done : List α) (ρ : Rho), P done ρ → (∀ dn x rest ρ, done ++ xs = dn ++ x :: rest → P dn ρ → ∃ ρ2, turn g body (em x) ρ = .ok (.next, ρ2) ∧ P (dn ++ [x]) ρ2) →
    ∃ ρ', forLoop g body (xs.map em) ρ = .ok (.next, ρ') ∧ P (done ++ xs) ρ'
  | [], done, ρ, h, _ => ⟨ρ, rfl, by simpa using h⟩
  | x :: xs, done, ρ, h, st => by
    obtain ⟨ρ2, e, h2⟩ := st done x xs ρ rfl h
    obtain ⟨ρ', e', h'⟩ := for_inv P xs (done ++ [x]) ρ2 h2 fun dn y rest r q => st dn y rest r (by rw [← q]; simp)
    refine ⟨ρ', ?_, by simpa using h'⟩
    rw [List.map_cons, forLoop_cons, e, res_bindF, forK_next, e']
/-- a loop whose turns do not look back -/
theorem for_all {α : Type} {g : GT} {body : SV} {em : α → D} (P : Rho → Prop) (xs : List α) (ρ : Rho) (h : P ρ) (st : ∀ x ∈ xs, ∀ ρ, P ρ → ∃ ρ2, turn g body (em x) ρ = .ok (.next, ρ2) ∧ P ρ2) :
    ∃ ρ', forLoop g body (xs.map em) ρ = .ok (.next, ρ') ∧ P ρ' :=
  for_inv (fun _ => P) xs [] ρ h fun dn x rest r q p => st x (by have : x ∈ dn ++ x :: rest := by simp
                                                                 rw [← q] at this; simpa using this) r p
/-- a loop that may end with an answer -/
theorem for_ret {α : Type} {g : GT} {body : SV} {em : α → D} (P : List α → Rho → Prop) (R : Hd → Rho → Prop) : ∀ (xs done : List α) (ρ : Rho), P done ρ → (∀ dn x rest ρ, done ++ xs = dn ++ x :: rest → P dn ρ → (∃ ρ2, turn g body (em x) ρ = .ok (.next, ρ2) ∧ P (dn ++ [x]) ρ2) ∨ ∃ h ρ2, turn g body (em x) ρ = .ok (.ret h, ρ2) ∧ R h ρ2) →
    (∃ ρ', forLoop g body (xs.map em) ρ = .ok (.next, ρ') ∧ P (done ++ xs) ρ') ∨ ∃ h ρ', forLoop g body (xs.map em) ρ = .ok (.ret h, ρ') ∧ R h ρ'
  | [], done, ρ, h, _ => .inl ⟨ρ, rfl, by simpa using h⟩
  | x :: xs, done, ρ, h, st => by
    rcases st done x xs ρ rfl h with ⟨ρ2, e, h2⟩ | ⟨hh, ρ2, e, h2⟩
    · rcases for_ret P R xs (done ++ [x]) ρ2 h2 (fun dn y rest r q => st dn y rest r (by rw [← q]; simp)) with ⟨ρ', e', h'⟩ | ⟨k, ρ', e', h'⟩
      · refine .inl ⟨ρ', ?_, by simpa using h'⟩
        rw [List.map_cons, forLoop_cons, e, res_bindF, forK_next, e']
      · refine .inr ⟨k, ρ', ?_, h'⟩
        rw [List.map_cons, forLoop_cons, e, res_bindF, forK_next, e']
    · refine .inr ⟨hh, ρ2, ?_, h2⟩
      rw [List.map_cons, forLoop_cons, e, res_bindF, forK_ret]
/-! while -/
def whK (c : BV) (body : SV) (n : Nat) : Out × Rho → Res (Out × Rho)
  | (.next, ρ) => whileLoop c body n ρ
  | (.cont, ρ) => whileLoop c body n ρ
  | (.brk, ρ) => .ok (.next, ρ)
  | (.ret h, ρ) => .ok (.ret h, ρ)
@[simp] theorem whK_next (c : BV) (body : SV) (n : Nat) (ρ : Rho) : whK c body n (.next, ρ) = whileLoop c body n ρ := rfl
@[simp] theorem whK_cont (c : BV) (body : SV) (n : Nat) (ρ : Rho) : whK c body n (.cont, ρ) = whileLoop c body n ρ := rfl
@[simp] theorem whK_brk (c : BV) (body : SV) (n : Nat) (ρ : Rho) : whK c body n (.brk, ρ) = .ok (.next, ρ) := rfl
@[simp] theorem whK_ret (c : BV) (body : SV) (n : Nat) (ρ : Rho) (h : Hd) : whK c body n (.ret h, ρ) = .ok (.ret h, ρ) := rfl
theorem while_step (c : BV) (body : SV) (n : Nat) (ρ : Rho) : whileLoop c body (n + 1) ρ = (c ρ).bind fun p => if p.1 = true then (body p.2).bind (whK c body n) else .ok (.next, p.2) := by
  rw [whileLoop]
  show Res.bind _ _ = _
  cases c ρ with
  | bad => rfl
  | ok p =>
    obtain ⟨b, r⟩ := p
    cases b with
    | false => rfl
    | true =>
      simp only [res_bindF, if_true]
      show Res.bind _ _ = _
      cases body r with
      | bad => rfl
      | ok q => obtain ⟨o, r⟩ := q; cases o <;> rfl
/-- a while loop: m turns at most; it ends by its test, or by an answer -/
theorem while_inv {c : BV} {body : SV} (P : Nat → Rho → Prop) (R : Out → Rho → Prop) (st : ∀ m ρ, P m ρ → (∃ o ρ1, c ρ = .ok (false, ρ1) ∧ o = .next ∧ R o ρ1) ∨ (∃ ρ1, c ρ = .ok (true, ρ1) ∧ ((∃ m' ρ2, body ρ1 = .ok (.next, ρ2) ∧ m = m' + 1 ∧ P m' ρ2) ∨ ∃ h ρ2, body ρ1 = .ok (.ret h, ρ2) ∧ R (.ret h) ρ2))) :
    ∀ (m n : Nat) (ρ : Rho), P m ρ → m < n → ∃ o ρ', whileLoop c body n ρ = .ok (o, ρ') ∧ R o ρ' := by
  intro m
  induction m with
  | zero =>
    intro n ρ h hl
    obtain ⟨k, rfl⟩ : ∃ k, n = k + 1 := ⟨n - 1, by omega⟩
    rw [while_step]
    rcases st 0 ρ h with ⟨o, ρ1, e, eo, r⟩ | ⟨ρ1, e, ⟨m', ρ2, _, em, _⟩ | ⟨hh, ρ2, e2, r⟩⟩
    · rw [e]; subst eo; exact ⟨_, _, rfl, r⟩
    · omega
    · rw [e, res_bindF, if_pos rfl, e2]; exact ⟨_, _, rfl, r⟩
  | succ m ih =>
    intro n ρ h hl
    obtain ⟨k, rfl⟩ : ∃ k, n = k + 1 := ⟨n - 1, by omega⟩
    rw [while_step]
    rcases st (m + 1) ρ h with ⟨o, ρ1, e, eo, r⟩ | ⟨ρ1, e, ⟨m', ρ2, e2, em, h2⟩ | ⟨hh, ρ2, e2, r⟩⟩
    · rw [e]; subst eo; exact ⟨_, _, rfl, r⟩
    · rw [e, res_bindF, if_pos rfl, e2, res_bindF, whK_next]
      obtain rfl : m' = m := by omega
      exact ih k ρ2 h2 (by omega)
    · rw [e, res_bindF, if_pos rfl, e2]; exact ⟨_, _, rfl, r⟩
/-! ### what loops walk -/
def enumK : D × Rho → Res (List D × Rho)
  | (.lst ds, ρ) => .ok (enumD ds, ρ)
  | _ => .bad
@[simp] theorem enumK_lst (ds : List D) (ρ : Rho) : enumK (.lst ds, ρ) = .ok (enumD ds, ρ) := rfl
theorem res_cong {α β : Type} {f g : α → Res β} (h : ∀ a, f a = g a) (x : Res α) : Res.bind x f = Res.bind x g := by rw [funext h]
@[simp] theorem ivEnum_app (f : EV) (ρ : Rho) : ivEnum f ρ = (given f ρ).bind enumK := by
  unfold ivEnum
  exact res_cong (fun a => by obtain ⟨d, r⟩ := a; cases d <;> rfl) _
def itemsK : D × Rho → Res (List D × Rho)
  | (.dct kvs, ρ) => .ok (kvs.map fun kv => .tup [kD kv.1, kv.2], ρ)
  | _ => .bad
@[simp] theorem itemsK_dct (kvs : List (Key × D)) (ρ : Rho) : itemsK (.dct kvs, ρ) = .ok (kvs.map fun kv => .tup [kD kv.1, kv.2], ρ) := rfl
@[simp] theorem ivItems_app (f : EV) (ρ : Rho) : ivItems f ρ = (given f ρ).bind itemsK := by
  unfold ivItems
  exact res_cong (fun a => by obtain ⟨d, r⟩ := a; cases d <;> rfl) _
def valuesK : D × Rho → Res (List D × Rho)
  | (.dct kvs, ρ) => .ok (kvs.map fun kv => kv.2, ρ)
  | _ => .bad
@[simp] theorem valuesK_dct (kvs : List (Key × D)) (ρ : Rho) : valuesK (.dct kvs, ρ) = .ok (kvs.map fun kv => kv.2, ρ) := rfl
@[simp] theorem ivValues_app (f : EV) (ρ : Rho) : ivValues f ρ = (given f ρ).bind valuesK := by
  unfold ivValues
  exact res_cong (fun a => by obtain ⟨d, r⟩ := a; cases d <;> rfl) _
def rangeK : D × Rho → Res (List D × Rho)
  | (.int j, ρ) => if few62 j = true then .ok (rangeD 0 j.toNat, ρ) else .bad
  | _ => .bad
@[simp] theorem rangeK_int (j : Int) (ρ : Rho) : rangeK (.int j, ρ) = if few62 j = true then .ok (rangeD 0 j.toNat, ρ) else .bad := rfl
@[simp] theorem ivRange1_app (f : EV) (ρ : Rho) : ivRange1 f ρ = (given f ρ).bind rangeK := by
  unfold ivRange1
  exact res_cong (fun a => by obtain ⟨d, r⟩ := a; cases d <;> rfl) _
def rangeK2 (i : D) : D × Rho → Res (List D × Rho)
  | (.int j, ρ) => match i with
    | .int i => if (few62 i && few62 j) = true then .ok (rangeD i (j - i).toNat, ρ) else .bad
    | _ => .bad
  | _ => .bad
@[simp] theorem rangeK2_int (i j : Int) (ρ : Rho) : rangeK2 (.int i) (.int j, ρ) = if (few62 i && few62 j) = true then .ok (rangeD i (j - i).toNat, ρ) else .bad := rfl
@[simp] theorem ivRange2_app (f g : EV) (ρ : Rho) : ivRange2 f g ρ = (given f ρ).bind fun p => (given g p.2).bind (rangeK2 p.1) := by
  unfold ivRange2
  exact res_cong (fun a => res_cong (fun b => by obtain ⟨d, r⟩ := a; obtain ⟨e, q⟩ := b; cases d <;> cases e <;> rfl) _) _
def zipK (a : D) : D × Rho → Res (List D × Rho)
  | (.lst es, ρ) => match a with
    | .lst ds => .ok (zipD ds es, ρ)
    | _ => .bad
  | (.tup es, ρ) => match a with
    | .tup ds => .ok (zipD ds es, ρ)
    | _ => .bad
  | _ => .bad
@[simp] theorem zipK_lst (ds es : List D) (ρ : Rho) : zipK (.lst ds) (.lst es, ρ) = .ok (zipD ds es, ρ) := rfl
@[simp] theorem zipK_tup (ds es : List D) (ρ : Rho) : zipK (.tup ds) (.tup es, ρ) = .ok (zipD ds es, ρ) := rfl
@[simp] theorem ivZip_app (f g : EV) (ρ : Rho) : ivZip f g ρ = (given f ρ).bind fun p => (given g p.2).bind (zipK p.1) := by
  unfold ivZip
  exact res_cong (fun a => res_cong (fun b => by obtain ⟨d, r⟩ := a; obtain ⟨e, q⟩ := b; cases d <;> cases e <;> rfl) _) _
@[simp] theorem items_lst (ds : List D) : itemsOf (.lst ds) = some ds := rfl
@[simp] theorem items_tup (ds : List D) : itemsOf (.tup ds) = some ds := rfl
@[simp] theorem items_dct (kvs : List (Key × D)) : itemsOf (.dct kvs) = some (kvs.map fun kv => kD kv.1) := rfl
/-! ### own things -/
def fldK (cs : List Nat) (k : Nat) (ρ : Rho) : D → Res (Hd × Rho)
  | .obj c ds => if c ∈ cs then (Res.of (ds.lookup k)).bind fun x => .ok (.val x, ρ) else .bad
  | _ => .bad
@[simp] theorem fldK_obj (cs : List Nat) (k : Nat) (ρ : Rho) (c : Nat) (ds : List (Nat × D)) : fldK cs k ρ (.obj c ds) = if c ∈ cs then (Res.of (ds.lookup k)).bind fun x => .ok (.val x, ρ) else .bad := rfl
@[simp] theorem evFld_app (cs : List Nat) (k : Nat) (f : EV) (ρ : Rho) : evFld cs k f ρ = (Ft.settle f ρ).bind fun p => (Res.of (look p.2 p.1)).bind (fldK cs k p.2) := by
  unfold evFld
  exact res_cong (fun a => res_cong (fun d => by cases d <;> rfl) _) _
def recvK (cs : List Nat) (g : CV) : D × Rho → Res (List HA × Rho)
  | (.obj c ds, ρ) => if c ∈ cs then (g ρ).bind fun p => .ok (.fr (.obj c ds) :: p.1, p.2) else .bad
  | _ => .bad
@[simp] theorem recvK_obj (cs : List Nat) (g : CV) (c : Nat) (ds : List (Nat × D)) (ρ : Rho) : recvK cs g (.obj c ds, ρ) = if c ∈ cs then (g ρ).bind fun p => .ok (.fr (.obj c ds) :: p.1, p.2) else .bad := rfl
@[simp] theorem cvRecv_app (cs : List Nat) (f : EV) (g : CV) (ρ : Rho) : cvRecv cs f g ρ = (given f ρ).bind (recvK cs g) := by
  unfold cvRecv
  exact res_cong (fun a => by obtain ⟨d, r⟩ := a; cases d <;> rfl) _
def inK (neg : Bool) (cs : List Nat) (fn : FnV) (x : D) : D × Rho → Res (Hd × Rho)
  | (.obj c ds, ρ) => if c ∈ cs then (fn [.obj c ds, x]).bind (inOut neg ρ) else .bad
  | _ => .bad
@[simp] theorem inK_obj (neg : Bool) (cs : List Nat) (fn : FnV) (x : D) (c : Nat) (ds : List (Nat × D)) (ρ : Rho) : inK neg cs fn x (.obj c ds, ρ) = if c ∈ cs then (fn [.obj c ds, x]).bind (inOut neg ρ) else .bad := rfl
@[simp] theorem inOut_bl (neg : Bool) (ρ : Rho) (b : Bool) : inOut neg ρ (.val (.bl b), []) = .ok (.val (.bl (if neg = true then !b else b)), ρ) := by cases neg <;> rfl
@[simp] theorem evIn_app (neg : Bool) (cs : List Nat) (fn : FnV) (fx fo : EV) (ρ : Rho) : evIn neg cs fn fx fo ρ = (given fx ρ).bind fun p => (given fo p.2).bind (inK neg cs fn p.1) := by
  unfold evIn
  exact res_cong (fun a => res_cong (fun b => by obtain ⟨d, r⟩ := b; cases d <;> rfl) _) _
def makK (ρ : Rho) : Hd × List D → Res (Hd × Rho)
  | (.val .non, [d]) => .ok (.tmp d, ρ)
  | _ => .bad
@[simp] theorem makK_one (ρ : Rho) (d : D) : makK ρ (.val .non, [d]) = .ok (.tmp d, ρ) := rfl
@[simp] theorem evMake_app (c : Nat) (fn : FnV) (gk : GV) (gD : List D → List D) (ρ : Rho) : evMake c fn gk gD ρ = (gk ρ).bind fun p => (fn (.obj c [] :: gD p.1)).bind (makK p.2) := by
  unfold evMake
  refine res_cong (fun a => res_cong (fun b => ?_) _) _
  obtain ⟨r, ls⟩ := b
  unfold makK
  cases r with
  | val d => cases d <;> first | rfl | (cases ls with
    | nil => rfl
    | cons x l => cases l <;> rfl)
  | tmp d => rfl
  | slot i => rfl
def fldSetK (cs : List Nat) (i k : Nat) (d : D) (ρ : Rho) : D → Res (Out × Rho)
  | .obj c ds => if c ∈ cs ∧ ds.length < 900 then (Res.of (ρ.put i (.obj c (putFD k d ds)))).bind fun ρ2 => .ok (.next, ρ2) else .bad
  | _ => .bad
@[simp] theorem fldSetK_obj (cs : List Nat) (i k : Nat) (d : D) (ρ : Rho) (c : Nat) (ds : List (Nat × D)) : fldSetK cs i k d ρ (.obj c ds) = if c ∈ cs ∧ ds.length < 900 then (Res.of (ρ.put i (.obj c (putFD k d ds)))).bind fun ρ2 => .ok (.next, ρ2) else .bad := rfl
@[simp] theorem svFld_app (cs : List Nat) (i k : Nat) (f : EV) (ρ : Rho) : svFld cs i k f ρ = (given f ρ).bind fun p => (Res.of (Rho.own p.2 i)).bind (fldSetK cs i k p.1 p.2) := by
  unfold svFld
  exact res_cong (fun a => res_cong (fun d => by cases d <;> rfl) _) _
@[simp] theorem evLenSet_app (f : EV) (ρ : Rho) : evLenSet f ρ = (Ft.settle f ρ).bind fun p => (Res.of (look p.2 p.1)).bind fun d => (Res.of (setItems d)).bind fun ks => if ks.length ≤ 4000 then .ok (.val (.int (dedupK ks).length), p.2) else .bad := rfl
@[simp] theorem evSortSet_app (f : EV) (ρ : Rho) : evSortSet f ρ = (Ft.settle f ρ).bind fun p => (Res.of (look p.2 p.1)).bind fun d => (Res.of (setItems d)).bind fun ks => if ks.length ≤ 4000 then (Res.of (sortD ((dedupK ks).map kD))).bind fun r => .ok (r, p.2) else .bad := rfl
@[simp] theorem evIsi_app (ans : D → Option Bool) (f : EV) (ρ : Rho) : evIsi ans f ρ = (Ft.settle f ρ).bind fun p => (Res.of (look p.2 p.1)).bind fun d => (Res.of (ans d)).bind fun b => .ok (.val (.bl b), p.2) := rfl
/-! two clauses; dicts put together -/
def outStep (g : GT) (tt : BV) (it1 : IV) (g1 : GT) (tt1 : BV) (f : EV) (vs vs1 : List Nat) (d : D) (ρ : Rho) : Res (List D × Rho) :=
  (Res.of (g d ρ)).bind fun ρ1 => (tt ρ1).bind fun p => if p.1 = true then (it1 p.2).bind fun q => if q.1.length ≤ 1000 then (lcLoop g1 tt1 f vs1 q.1 (q.2.wipe vs1)).bind fun r => .ok (r.1, r.2.wipe vs) else .bad else .ok ([], p.2.wipe vs)
theorem lcOut_cons (g : GT) (tt : BV) (it1 : IV) (g1 : GT) (tt1 : BV) (f : EV) (vs vs1 : List Nat) (d : D) (ds : List D) (ρ : Rho) :
    lcOut g tt it1 g1 tt1 f vs vs1 (d :: ds) ρ = (outStep g tt it1 g1 tt1 f vs vs1 d ρ).bind fun p => (lcOut g tt it1 g1 tt1 f vs vs1 ds p.2).bind fun q => .ok (p.1 ++ q.1, q.2) := by
  rw [lcOut]
  unfold outStep
  show Res.bind _ _ = _
  cases g d ρ with
  | none => rfl
  | some ρ1 =>
    simp only [res_of, res_bindF]
    show Res.bind _ _ = _
    cases tt ρ1 with
    | bad => rfl
    | ok p =>
      obtain ⟨b, r⟩ := p
      cases b with
      | true =>
        simp only [res_bindF, if_true]
        show Res.bind _ _ = _
        cases it1 r with
        | bad => rfl
        | ok q =>
          simp only [res_bindF]
          split
          · show Res.bind _ _ = _
            cases lcLoop g1 tt1 f vs1 q.1 (q.2.wipe vs1) with
            | bad => rfl
            | ok q2 => rfl
          · rfl
      | false =>
        simp only [res_bindF, Bool.false_eq_true, if_false, List.nil_append]
        show lcOut g tt it1 g1 tt1 f vs vs1 ds _ = _
        cases lcOut g tt it1 g1 tt1 f vs vs1 ds (Rho.wipe r vs) <;> rfl
theorem out_map {α : Type} {g : GT} {tt : BV} {it1 : IV} {g1 : GT} {tt1 : BV} {f : EV} {vs vs1 : List Nat} {em : α → D} {ρ0 : Rho} (h : α → List D) : ∀ (xs : List α), (∀ x ∈ xs, outStep g tt it1 g1 tt1 f vs vs1 (em x) ρ0 = .ok (h x, ρ0)) → lcOut g tt it1 g1 tt1 f vs vs1 (xs.map em) ρ0 = .ok (xs.flatMap h, ρ0)
  | [], _ => rfl
  | x :: xs, hs => by
    rw [List.map_cons, lcOut_cons, hs x (List.mem_cons_self ..), res_bindF, out_map h xs fun y hy => hs y (List.mem_cons_of_mem _ hy), res_bindF, List.flatMap_cons]
@[simp] theorem evLc2_app (it : IV) (g : GT) (tt : BV) (it1 : IV) (g1 : GT) (tt1 : BV) (f : EV) (vs vs1 : List Nat) (ρ : Rho) : evLc2 it g tt it1 g1 tt1 f vs vs1 ρ = (it ρ).bind fun p => if (p.2.idle vs && decide (p.1.length ≤ 1000)) = true then (lcOut g tt it1 g1 tt1 f vs vs1 p.1 (p.2.wipe vs)).bind fun q => .ok (.tmp (.lst q.1), p.2.unwipe q.2 vs) else .bad := rfl
def mergK (a : D) : D × Rho → Res (Hd × Rho)
  | (.dct more, ρ) => match a with
    | .dct kvs => if kvs.length + more.length ≤ 1000000 then .ok (.tmp (.dct (mergeD (mergeD [] kvs) more)), ρ) else .bad
    | _ => .bad
  | _ => .bad
@[simp] theorem mergK_dct (kvs more : List (Key × D)) (ρ : Rho) : mergK (.dct kvs) (.dct more, ρ) = if kvs.length + more.length ≤ 1000000 then .ok (.tmp (.dct (mergeD (mergeD [] kvs) more)), ρ) else .bad := rfl
theorem evMerge_two {fa fb : EV} {ρ ρ1 ρ2 : Rho} {kvs more : List (Key × D)} (h1 : given fa ρ = .ok (.dct kvs, ρ1)) (h2 : given fb ρ1 = .ok (.dct more, ρ2)) (hl : kvs.length + more.length ≤ 1000000) : evMerge fa fb ρ = .ok (.tmp (.dct (mergeD (mergeD [] kvs) more)), ρ2) := by
  unfold evMerge
  show Res.bind _ _ = _
  rw [h1, res_bindF]
  show Res.bind _ _ = _
  rw [h2, res_bindF]
  exact if_pos hl
end Ft
set_option Elab.async false
set_option linter.all false
set_option maxRecDepth 100000
set_option maxHeartbeats 2000000
/-! FtZ: what the top of the program has written, def by def; and the end of a claim. -/
namespace Ft
open PySem PySem.Spec PyProof.Rows L2
section
variable {K : PySem.W.Frag} {mg : Str → Option Value} {h : Heap} {C : Addr} {x m qual : Str} {st : Stmt} {f p : Addr} {oc : Value} {od an : Option Addr} {osl : Array (Option Value)} {kV doc pm cdv ct mc : Value}
/-- a def of the module -/
def DFn (K : PySem.W.Frag) (mg : Str → Option Value) (x : Str) (st : Stmt) : Prop := ∃ f fd, Fun K x x st f fd ∧ mg x = some (.ref f)
theorem dfn (X : K.In h) (G : h.Ns mainGlobals mg) (a : PySem.W.nsIn K mainGlobals x = some (some (.ref f))) (l : K.lookup f = some ⟨oc, od, .func (PySem.W.fnOf x x (defArgs st) (defBody st) (defScope st) .none kV doc pm an cdv ct), osl⟩)
    (c : PySem.W.codeIn K cdv x = true) (k : PySem.W.keepIn K (.ref f) = true) : DFn K mg x st := ⟨f, _, fun_mk l c k, PySem.W.mg_of X G a⟩
/-- a method -/
def MFn (K : PySem.W.Frag) (C : Addr) (m qual : Str) (st : Stmt) : Prop := ∃ f fd, Fun K m qual st f fd ∧ Meth K C m f
theorem mfn (a : PySem.W.findIn K (.ref C) m = some (some (.ref f))) (i : PySem.W.isFn K (.ref f) = true) (l : K.lookup f = some ⟨oc, od, .func (PySem.W.fnOf m qual (defArgs st) (defBody st) (defScope st) .none kV doc pm an cdv ct), osl⟩)
    (c : PySem.W.codeIn K cdv qual = true) (k : PySem.W.keepIn K (.ref f) = true) : MFn K C m qual st := ⟨f, _, fun_mk l c k, ⟨a, i, k⟩⟩
theorem fund_mk (l : K.lookup f = some ⟨oc, od, .func (PySem.W.fnOf m qual (defArgs st) (defBody st) (defScope st) .none kV doc pm an cdv ct), osl⟩)
    (c : PySem.W.codeIn K cdv qual = true) (k : PySem.W.keepIn K (.ref f) = true) : FunD K m qual (defArgs st) (defBody st) (defScope st) [] [] f (PySem.W.fnOf m qual (defArgs st) (defBody st) (defScope st) .none kV doc pm an cdv ct) :=
  ⟨⟨oc, od, .none, kV, doc, pm, an, cdv, ct, osl, rfl, l, c, .inl ⟨rfl, rfl⟩, .inl rfl⟩, k⟩
/-- a method with keyword-only parameters -/
def MFnD (K : PySem.W.Frag) (C : Addr) (m qual : Str) (st : Stmt) : Prop := ∃ f fd, FunD K m qual (defArgs st) (defBody st) (defScope st) [] [] f fd ∧ Meth K C m f
theorem mfnD (a : PySem.W.findIn K (.ref C) m = some (some (.ref f))) (i : PySem.W.isFn K (.ref f) = true) (l : K.lookup f = some ⟨oc, od, .func (PySem.W.fnOf m qual (defArgs st) (defBody st) (defScope st) .none kV doc pm an cdv ct), osl⟩)
    (c : PySem.W.codeIn K cdv qual = true) (k : PySem.W.keepIn K (.ref f) = true) : MFnD K C m qual st := ⟨f, _, fund_mk l c k, ⟨a, i, k⟩⟩
/-- the def by which a class makes its things -/
def KFn (K : PySem.W.Frag) (C : Addr) (qual : Str) (st : Stmt) : Prop := ∃ f fd, FunD K "__init__" qual (defArgs st) (defBody st) (defScope st) [] [] f fd ∧ Mk K C f
theorem kfn (ms : PySem.W.makesIn K C = true) (a : PySem.W.findIn K (.ref C) "__init__" = some (some (.ref f))) (i : PySem.W.isFn K (.ref f) = true) (l : K.lookup f = some ⟨oc, od, .func (PySem.W.fnOf "__init__" qual (defArgs st) (defBody st) (defScope st) .none kV doc pm an cdv ct), osl⟩)
    (c : PySem.W.codeIn K cdv qual = true) (k : PySem.W.keepIn K (.ref f) = true) (kc : PySem.W.keepIn K (.ref C) = true) : KFn K C qual st := ⟨f, _, fund_mk l c k, ⟨ms, a, i, kc⟩⟩
/-- a property -/
def PFn (K : PySem.W.Frag) (C : Addr) (m qual : Str) (st : Stmt) : Prop := ∃ p f fd, Fun K m qual st f fd ∧ PropOf K C m p f
theorem pfn {rest : List Value} (a : PySem.W.findIn K (.ref C) m = some (some (.ref p))) (g : PySem.W.specialIn K (.ref p) "__get__" = some (some (.builtin "property.__get__"))) (t : PySem.W.takesIn K (.ref p) = some true)
    (r : PySem.W.recIn K p "property" = some (.ref f :: rest)) (l : K.lookup f = some ⟨oc, od, .func (PySem.W.fnOf m qual (defArgs st) (defBody st) (defScope st) .none kV doc pm an cdv ct), osl⟩)
    (c : PySem.W.codeIn K cdv qual = true) (k : PySem.W.keepIn K (.ref f) = true) : PFn K C m qual st := ⟨p, f, _, fun_mk l c k, ⟨a, g, t, rest, r⟩⟩
/-- a classmethod -/
def CFn (K : PySem.W.Frag) (C : Addr) (m qual : Str) (st : Stmt) : Prop := ∃ mc p f fd, Fun K m qual st f fd ∧ ClX.CRead K C mc ∧ ClX.CMet K C mc m p f
theorem cfn {rest : List Value} (rd : PySem.W.readsIn K C mc = true) (ga : PySem.W.specialIn K (.ref C) "__getattribute__" = some (some (.builtin "type.__getattribute__")))
    (a : PySem.W.findCls K (.ref C) mc m = some (.get (.builtin "classmethod.__get__") (.ref p) .none (.ref C))) (r : PySem.W.recIn K p "classmethod" = some (.ref f :: rest)) (i : PySem.W.fnIn K f = true)
    (l : K.lookup f = some ⟨oc, od, .func (PySem.W.fnOf m qual (defArgs st) (defBody st) (defScope st) .none kV doc pm an cdv ct), osl⟩)
    (c : PySem.W.codeIn K cdv qual = true) (k : PySem.W.keepIn K (.ref f) = true) : CFn K C m qual st := ⟨mc, p, f, _, fun_mk l c k, ⟨rd, ga⟩, ⟨a, ⟨rest, r⟩, i⟩⟩
theorem kbn_mk {params : Arguments} {body : List Stmt} {scope : Scope} {fd : FuncData} {ps ks : List Str} {n : Nat} (F : FunD K x qual params body scope [] [] f fd)
    (hb : ∀ (kV doc pm : Value) (an : Option Addr) (cdv ct : Value) (us ws : List Value), us.length = n → ws.length = ks.length → bindArgs (PySem.W.fnOf x qual params body scope .none kV doc pm an cdv ct) ⟨us, ks.zip ws⟩ = pure (ps.zip (us ++ ws))) :
    KBn K fd ps n ks (fun us ws => us ++ ws) (fun vs zs => vs ++ zs) := by
  obtain ⟨oc, od, dV, kV, doc, pm, an, cdv, ct, osl, rfl, lk, hcd, hD, hK⟩ := F.ex
  rcases hD with ⟨_, rfl⟩ | ⟨e, _⟩
  · exact ⟨fun s us ws _ h1 h2 => .of_eq (hb kV doc pm an cdv ct us ws h1 h2), fun a b => a.append b⟩
  · exact absurd rfl e
theorem fun_law {fd : FuncData} {y : Str} (F : Fun K x qual st f fd)
    (hb : ∀ (kV doc pm : Value) (an : Option Addr) (cdv ct u : Value), bindArgs (PySem.W.fnOf x qual (defArgs st) (defBody st) (defScope st) .none kV doc pm an cdv ct) ⟨[u], []⟩ = pure [(y, u)]) (s : Shared) (u : Value) : BindsTo s fd ⟨[u], []⟩ [(y, u)] := by
  obtain ⟨oc, od, kV, doc, pm, an, cdv, ct, osl, rfl, lk, hcd⟩ := F.ex
  exact .of_eq (hb kV doc pm an cdv ct u)
theorem gstr {t : Nat} {y : Str} (X : K.In h) (G : h.Ns mainGlobals mg) (a : PySem.W.nsIn K mainGlobals x = some (some (.str y t))) : GStr mg x y := ⟨t, PySem.W.mg_of X G a⟩
theorem gint {t : Nat} {i : Int} (X : K.In h) (G : h.Ns mainGlobals mg) (a : PySem.W.nsIn K mainGlobals x = some (some (.int i t))) : GInt mg x i := ⟨t, PySem.W.mg_of X G a⟩
end
theorem scr_of {K : PySem.W.Frag} {H : Hp} {a : Addr} {xs : List V} (o : Only H) (s : SqL K H a xs) : ScrL K H a xs := by
  rcases s with (e | e) | r
  · rcases o a with z | ⟨ob, ys, z⟩
    · rw [e] at z; cases z
    · rw [e] at z; cases z
  · exact .inl e
  · exact .inr r
/-- THE END: the walk, from the plain law -/
theorem walk_pure {l : PySem.W.OpenLaw} {q : Program} {loose : List Str} {XP : (Str → Option Value) → Heap → Prop} {YP : World → Heap → Prop} {d : DefRec} {K : Params → PySem.W.Frag} {k : Nat} {nm : Nat → Str} {fn : FnV} (hn : l.most = some 63) (hdf : d.params.defaults = []) (hdn : d.name = "law") (hr : Room k callerA)
    (pl : ∀ ns : List Int, fn [.scr ns] = .ok (.val (.bl true), [])) (hY : ∀ (w : World) (h : Heap), YP w h → (K w.params).In h)
    (F : ∀ (w : World) (mg : Str → Option Value) (h : Heap), (K w.params).In h → h.Ns mainGlobals mg → ∃ (cls atm : Nat → Addr) (f : Addr) (fd : FuncData), mg "law" = some (.ref f) ∧ (∀ (s : Shared) (u : Value), BindsTo s fd ⟨[u], []⟩ [("script", u)]) ∧ ∀ base : Heap, FnOk l.prog w (K w.params) mg base CX0 k f fd ["script"] (spF ⟨K w.params, cls, nm, atm⟩ [false] fn)) :
    PySem.W.WalkO q loose XP YP l.row.toRowW d [] (fun f vs => PySem.call f vs) :=
  L2.walk_of (n := 63) (k := k) (x := "script") (CX := fun _ => CX0) (sp := fun w vs H Q _ => ∃ (a : Addr) (ns : List Int), vs = [.ref a] ∧ ScrL (K w.params) H a (ns.map V.int) ∧ ∀ H', Q (.bl true) H') hn (by decide) hdf hr hY (fun w mg fa h KX G hmg => by
    obtain ⟨cls, atm, f, fd, e, hb, hF⟩ := F w mg h KX G
    rw [hdn, e] at hmg
    cases hmg
    refine ⟨fd, hb, fun base _ _ => (hF base).imp ?_⟩
    rintro vs H Q E ⟨a, ns, rfl, hs, k⟩
    refine ⟨[.scr ns], [], .val (.bl true), [], .fr (.scr hs) .nil, pl ns, fun v H' _ _ _ r => ?_⟩
    have r : Rep _ H' v (.bl true) := r
    cases r
    exact k H') (fun w H a ns _ o s => ⟨a, ns, rfl, scr_of o s, fun _ => rfl⟩) fun _ _ _ _ _ z => z
end Ft
set_option Elab.async false
set_option linter.all false
set_option maxRecDepth 100000
set_option maxHeartbeats 2000000
/-! FtZb: def f(self, .., *rest): what is left over is a tuple. -/
namespace Ft
open PySem PySem.Spec PyProof.Rows L2
/-- the rest of the arguments as a tuple -/
def fnV (np : Nat) (fn : FnV) : FnV := fun ds => fn (ds.take np ++ [.tup (ds.drop np)])
theorem args_false {G : Pg} {H : Hp} : ∀ {m : Nat} {vs : List V} {ds : List D} {as : List Addr}, ArgsR G H (List.replicate m false) vs ds as → Reps G H vs ds ∧ vs.length = m ∧ as = []
  | 0, _, _, _, h => by cases h; exact ⟨.nil, rfl, rfl⟩
  | m + 1, _, _, _, h => by
    rw [List.replicate_succ] at h
    cases h with
    | fr r t =>
      obtain ⟨a, b, c⟩ := args_false t
      exact ⟨.cons r a, congrArg Nat.succ b, c⟩
theorem false_args {G : Pg} {H : Hp} : ∀ {m : Nat} {vs : List V} {ds : List D}, Reps G H vs ds → vs.length = m → ArgsR G H (List.replicate m false) vs ds []
  | 0, _, _, .nil, _ => .nil
  | 0, _, _, .cons _ _, h => nomatch h
  | m + 1, _, _, .nil, h => nomatch h
  | m + 1, _, _, .cons r t, h => .fr r (false_args t (Nat.succ.inj h))
section
variable {P : Program} {w : World} {K : PySem.W.Frag} {mg : Str → Option Value} {base : Heap} {G : Pg}
theorem ok_defV {x qual : Str} {st : Stmt} {f : Addr} {fd : FuncData} {N ps : List Str} {pv : Str} {k n j : Nat} {body : SV} (F : Fun K x qual st f fd) (S : FnScope N (ps ++ [pv]) (defScope st)) (hN : N.length = (ps.length + 1) + n) (hj : j ≤ 1000)
    (hbd : ∀ (kV doc pm : Value) (an : Option Addr) (cdv ct : Value) (us rest : List Value), us.length = ps.length → bindArgs (PySem.W.fnOf x qual (defArgs st) (defBody st) (defScope st) .none kV doc pm an cdv ct) ⟨us ++ rest, []⟩ = (newTuple rest >>= fun t => pure (ps.zip us ++ [(pv, t)])))
    (hb : ∀ (cdv : Value) (A : Around) (outer : List Env) (s : Shared) (H : Hp) (E : XK) (H0 : Hp) (M : List (Nat × Addr)), Room k (A.deeper (envOfC qual (defScope st) s.heap.objs.size f cdv)) →
      PSs (cxOf CX0 P w K mg base N qual (defScope st) f cdv A outer s H E).nox (defBody st) (tSv ⟨G, H0, M⟩ body)) :
    FnR P w K mg base CX0 (k + 1) f (spF G (List.replicate (ps.length + j) false) (fnV ps.length (fnOf n (List.replicate (ps.length + 1) false) body))) := by
  obtain ⟨oc, od, kV, doc, pm, an, cdv, ct, osl, rfl, lk, hcd⟩ := F.ex
  have R := StX.fn_star (P := P) (w := w) (mg := mg) (base := base) (CX := CX0) (k := k) (sp := spF G (List.replicate (ps.length + 1) false) (fnOf n (List.replicate (ps.length + 1) false) body)) lk hcd S StX.cxUp_none (hbd kV doc pm an cdv ct) (fun A outer s H vs Q E hr h => by
    obtain ⟨ds, as, r, ls, h, ev, q⟩ := h
    exact ⟨_, (hb cdv A outer s H E H (lentsAt 0 _ as) hr).nox, body_ok h (by rw [List.length_replicate]; exact hN) ev q⟩)
  intro A outer s H us vs Q E hr e0 r h
  refine R A outer s H us vs Q E hr e0 r ?_
  obtain ⟨ds, as, res, ls, ha, ev, q⟩ := h
  obtain ⟨rp, hl, rfl⟩ := args_false ha
  have lv : (vs.take ps.length).length = ps.length := by rw [List.length_take, hl]; omega
  have sl : (vs.drop ps.length).length ≤ sizeLine := by
    rw [List.length_drop, hl]
    exact Nat.le_trans (by omega : ps.length + j - ps.length ≤ 1000) (by decide)
  refine ⟨vs.take ps.length, vs.drop ps.length, (List.take_append_drop _ _).symm, lv, sl, fun p hp => ?_⟩
  have gr : Grow H (upd H p (.tup (vs.drop ps.length))) := Grow.upd hp
  refine ⟨ds.take ps.length ++ [.tup (ds.drop ps.length)], [], res, ls, false_args ((Reps.take _ (rp.ext gr.ext)).append (.cons (.tup (.inl (.inl upd_same)) ((rp.ext gr.ext).drop _)) .nil)) (by rw [List.length_append, lv]; rfl), by exact ev, fun v H' x1 x2 ho hn => ?_⟩
  refine q v H' (gr.ext.trans x1) (fun b u e hb => x2 b u (gr b u e) hb) ho ?_
  cases res with
  | val d => exact hn
  | slot i => exact hn
  | tmp d =>
    obtain ⟨a, e1, e2, e3⟩ := hn
    refine ⟨a, e1, e2, ?_⟩
    cases e : H a with
    | none => rfl
    | some u => rw [gr a u e] at e3; cases e3
/-- a method, by what its call promises -/
structure MevOk (P : Program) (w : World) (K : PySem.W.Frag) (mg : Str → Option Value) (base : Heap) (G : Pg) (c0 : Nat) (m : Str) (k : Nat) (ms : List Bool) (fn : FnV) : Prop where
  other : ∀ i, G.nm i ≠ m
  cls : ClsI K (G.cls c0)
  fn : ∃ fa, Meth K (G.cls c0) m fa ∧ FnR P w K mg base CX0 k fa (spF G ms fn)
def MevAll (P : Program) (w : World) (K : PySem.W.Frag) (mg : Str → Option Value) (base : Heap) (G : Pg) (c0 : Nat) (m : Str) (k np : Nat) (fn : FnV) : Prop := ∀ j, j ≤ 1000 → MevOk P w K mg base G c0 m k (List.replicate (np + j) false) (fnV np fn)
end
section
variable {X : Cx} {C : Ct} {a b c e o : Expr} {es : List Expr} {f fa fb fo : EV} {g : CV} {ga : AV} {pos p apos : Pos} {x : Str}
theorem pMev {k c0 : Nat} {m : Str} {ms : List Bool} {fn : FnV} (M : MevOk X.prog X.w X.K X.mg X.base C.G c0 m k ms fn) (hr : Room k X.A) (ho : PE X o (tEv C fo)) (ha : PA X (e :: es) (tCv C g)) {pl : Sem Bool}
    (hst : starEach (e :: es) X.env = (false, eval e X.env) :: starEach es X.env := by rfl) (hpl : (backTo pos (starEach es X.env)).any (·.1) = false := by rfl)
    (ht : eval (.Call (.Attribute o m apos) (e :: es) [] pos) X.env = (do
      let ov ← eval o X.env
      standAt apos.atName
      let (f, first) ← holding [ov] (getMethod ov m pl)
      callWith pos f first (backTo pos (starEach (e :: es) X.env)) (backToKw pos (keywordEach [] X.env))) := by rfl) :
    PE X (.Call (.Attribute o m apos) (e :: es) [] pos) (tEv C (evCall ms fn [] (cvRecv [c0] fo g))) := by
  refine ⟨fun pins s σ H Q I h => ?_⟩
  obtain ⟨c, hm, z⟩ := recv_imp (call_imp (dvs := []) (E := E0) (fun _ => .nil) h)
  cases List.mem_singleton.mp hm
  obtain ⟨fa, hM, F⟩ := M.fn
  refine PySem.W.methodCall_KW (pl := pl) (thn ((pe_give ho).run pins s σ H _ I z) fun u s1 ⟨v, H1, I1, rv, a, dx, fs, ds, ev, hz, rf, q⟩ => ?_) ht
  subst ev
  cases rv
  refine read_meth I1 hz.rd M.cls.cl hM (repF_none M.other rf) ?_
  refine PySem.W.callWith_K (first := [.ref a]) (h₀ := X.base) I.ok.mod.kin hM.kp (thn (ha.run pos pins s1 σ H1 _ I1 q) fun us s2 ⟨vs, H2, I2, r, q2⟩ => ⟨I2.kIn, ?_⟩) hst hpl
  refine wpAny_call (run_fnR (us := .ref a :: us) (vs := .ref a :: vs) F hr pass0 I2 (.cons rfl r) ?_)
  simpa using q2
end
end Ft
set_option Elab.async false
set_option linter.all false
set_option maxRecDepth 100000
set_option maxHeartbeats 2000000
/-! FtZc: f(e), e new and changed by f; == by an own __eq__; repr of a truth. -/
namespace Ft
open PySem PySem.Spec PyProof.Rows L2
section
variable {X : Cx} {C : Ct} {σ : L2.St} {H H' : Hp} {ρ ρ' : Rho} {a b c e o : Expr} {es : List Expr} {f fa fb fo : EV} {g : CV} {ga : AV} {pos p apos : Pos} {x : Str} {G : Pg} {CX : CXT} {k : Nat} {E : XK} {fn : FnV}
/-! ### a new thing is lent, and dropped -/
def evCallT (fn : FnV) (f : EV) : EV := fun ρ => do
  let (h, ρ1) ← f ρ
  match h with
  | .tmp d => do
    let (r, _) ← fn [d]
    pure (r, ρ1)
  | _ => .bad
theorem callT_imp {Q : VK} (h : tEv C (evCallT fn f) σ H Q) : tEv C f σ H fun x H1 => spF C.G [true] fn [x] H1 Q E := by
  obtain ⟨ρ, r0, ρ', R, ev, k⟩ := h
  obtain ⟨⟨hd, ρ1⟩, e1, ea⟩ := Res.bind_ok ev
  dsimp only at ea
  split at ea
  · rename_i d
    obtain ⟨⟨r, ls⟩, e2, eb⟩ := Res.bind_ok ea
    have ez := Res.pure_ok eb
    obtain ⟨rfl, rfl⟩ := Prod.mk.inj ez
    refine ⟨ρ, .tmp d, _, R, e1, fun v H1 x1 R1 r1 => ?_⟩
    obtain ⟨q, rfl, ow, h0, hn⟩ := r1
    refine ⟨[d], [q], r, ls, .ln ow (by simp) .nil, e2, fun v H2 x2 kp o n => ?_⟩
    have R2 : EnvR C σ H2 ρ1 := R1.step x2 (fun i d' b e3 e4 u e5 => kp b u e5 (fun z => by
      rw [List.mem_singleton.mp z] at e4
      exact hn i d' e3 e4)) fun b u e3 l e5 => kp b u e5 (fun z => by
      rw [List.mem_singleton.mp z, h0] at e3; cases e3)
    refine k v H2 (x1.trans x2) R2 ?_
    cases r with
    | val d => exact n
    | slot _ => exact n.elim
    | tmp d2 =>
      obtain ⟨y, rfl, o2, z⟩ := n
      refine ⟨y, rfl, o2, R1.fresh z, fun i w q2 y2 => ?_⟩
      obtain ⟨c, q3, q4, _⟩ := R1.ow i w q2
      rw [y2] at q3
      cases q3
      obtain ⟨u, q5⟩ := q4.there
      rw [z] at q5; cases q5
  · cases ea
theorem pDefT (F : DefOk X.prog X.w X.K X.mg X.base C.G x k [true] fn []) (hr : Room k X.A) (ha : PE X e (tEv C f)) (hg : Gl X x := by rfl) (hdb : (x == ("__debug__" : Str)) = false := by decide +kernel)
    (he : starEach [e] X.env = (false, eval e X.env) :: starEach [] X.env := by rfl) (hpl : (backTo pos (starEach [] X.env)).any (·.1) = false := by rfl) :
    PE X (.Call (.Name x p) [e] [] pos) (tEv C (evCallT fn f)) := by
  obtain ⟨f', fd, ps, dus, dvs, h1, h2, h3, h4, h5, h6⟩ := F.ex
  refine pe_imp (pe_call (E := E0) h1 hr hg h2 h3 h4 h5 pass0 (pa_cons ha pa_nil he) hdb he hpl) fun σ H Q h => ?_
  have z := callT_imp (E := E0) h
  have e0 : dvs = [] := by
    have := h6 H
    cases this
    rfl
  subst e0
  exact z
/-! ### == by the class's own def -/
def evEqO (c0 : Nat) (fn : FnV) (fa fb : EV) : EV := fun ρ => do
  let (d, ρ1) ← given fa ρ
  let (e, ρ2) ← given fb ρ1
  match d with
  | .obj c ds => match e with
    | .obj c' es => if c = c0 ∧ c' = c0 then (fn [.obj c ds, .obj c' es]).bind (inOut false ρ2) else .bad
    | _ => .bad
  | _ => .bad
def rEqO (G : Pg) (c0 : Nat) (fn : FnV) : V → V → Hp → VK → Prop := fun x y H Q => ∃ a dx fs ds b dy gs es r, x = .ref a ∧ y = .ref b ∧ Fz H a (.ins (G.cls c0) dx fs) ∧ RepF G H fs ds ∧ Fz H b (.ins (G.cls c0) dy gs) ∧ RepF G H gs es ∧ fn [.obj c0 ds, .obj c0 es] = .ok (.val (.bl r), []) ∧
      ∀ H', Ext H H' → (∀ p u, H p = some u → H' p = some u) → Q (.bl r) H'
theorem op_evEqO {c0 : Nat} (M : MethOk X CX C.G k [c0] "__eq__" [false, false] fn [] [] E) (hr : Room k X.A) : OpR X (compareOp .Eq) (rEqO C.G c0 fn) := by
  intro pins s σ H x y v u Q I rx ry h
  obtain ⟨a, dx, fs, ds, b, dy, gs, es, r, rfl, rfl, hz, rf, hz2, rf2, ef, q⟩ := h
  cases rx
  cases ry
  obtain ⟨fa, fd, ps, dus, hM, F, hb, hv⟩ := M.fn c0 (List.mem_singleton.mpr rfl)
  cases hv
  obtain ⟨mA, O, _⟩ := ins_of I.hok hz.rd
  obtain ⟨od, J, _⟩ := O.look
  obtain ⟨mA2, O2, _⟩ := ins_of I.hok hz2.rd
  obtain ⟨od2, J2, _⟩ := O2.look
  obtain ⟨m, hF⟩ := I.fr
  have hn : PySem.W.notFirst X.K (C.G.cls c0) (.ref (C.G.cls c0)) = true := by
    unfold PySem.W.notFirst
    simp
  show wpAny (model X.prog X.w) X.A (richCompare .Eq (.ref a) (.ref b)) (EP X pins σ Q) X.xe s
  refine PySem.W.cmp_K (op := .Eq) (tb := .ref (C.G.cls c0)) hr.units0 hF I.ok.mod.kin J J2.type hn hM.at_ hM.fn ?_
  refine thn (run_fn (dvs := []) (ds := []) (us := [.ref a, .ref b]) (vs := [.ref a, .ref b]) (Q := fun w H' => w = .bl r ∧ Ext H H' ∧ ∀ p u, H p = some u → H' p = some u) F hr hb .nil M.pass I (.cons rfl (.cons rfl .nil)) ?_) fun r' s' ⟨w, H', I', rw', e, x', k'⟩ => ?_
  · refine ⟨[.obj c0 ds, .obj c0 es], [], .val (.bl r), [], .fr (.obj hz rf) (.fr (.obj hz2 rf2) .nil), ef, fun w H' x' k' _ n => ?_⟩
    cases (show Rep C.G H' w (.bl r) from n)
    exact ⟨rfl, x', fun p u e => k' p u e (by simp)⟩
  · subst e
    cases rw'
    exact ⟨.bl r, H', I', rfl, q H' x' k'⟩
theorem eqO_imp {c0 : Nat} {Q : VK} (h : tEv C (evEqO c0 fn fa fb) σ H Q) : tOp (rEqO C.G c0 fn) (tEv C (give fa)) (tEv C (give fb)) σ H Q := by
  obtain ⟨ρ, h, ρ', R, ev, kk⟩ := h
  obtain ⟨⟨d, ρ1⟩, e1, ea⟩ := Res.bind_ok ev
  obtain ⟨⟨o', ρ2⟩, e2, eb⟩ := Res.bind_ok ea
  refine ⟨ρ, .val d, ρ1, R, given_ok e1, fun x H1 x1 R1 r1 => ⟨ρ1, .val o', ρ2, R1, given_ok e2, fun y H2 x2 R2 r2 => ?_⟩⟩
  dsimp only at eb
  split at eb
  · split at eb
    · split at eb
      · rename_i c ds c' es hm
        obtain ⟨rfl, rfl⟩ := hm
        obtain ⟨pr, e3, ec⟩ := Res.bind_ok eb
        unfold inOut at ec
        split at ec
        · cases ec
          cases (show Rep C.G H2 y (.obj _ _) from r2) with
          | @obj b dy _ gs _ hz2 rf2 =>
            cases Rep.ext x2 (show Rep C.G H1 x (.obj _ _) from r1) with
            | @obj a dx _ fs _ hz rf =>
              exact ⟨a, dx, fs, _, b, dy, gs, _, _, rfl, rfl, hz, rf, hz2, rf2, e3, fun H3 x3 k3 => kk _ H3 ((x1.trans x2).trans x3) (R2.grow k3) (.bl _)⟩
        · cases ec
      · cases eb
    · cases eb
  · cases eb
theorem pe_evEqO {c0 : Nat} (M : MethOk X CX C.G k [c0] "__eq__" [false, false] fn [] [] E) (hr : Room k X.A) (ha : PE X a (tEv C fa)) (hb : PE X b (tEv C fb)) (hm : behindInMarks .Eq b = false) :
    PE X (.Compare a [.Eq] [b] pos) (tEv C (evEqO c0 fn fa fb)) := pe_imp (pe_cmpR (op_evEqO M hr) (pe_give ha) (pe_give hb) hm) fun _ _ _ h => eqO_imp h
theorem pt_evEqO {c0 : Nat} (M : MethOk X CX C.G k [c0] "__eq__" [false, false] fn [] [] E) (hr : Room k X.A) (ha : PE X a (tEv C fa)) (hb : PE X b (tEv C fb)) (hm : behindInMarks .Eq b = false) :
    PT X (.Compare a [.Eq] [b] pos) (tBv C (tst (evEqO c0 fn fa fb))) := pt_imp (pt_cmpR (op_evEqO M hr) (pe_give ha) (pe_give hb) hm) fun σ H Q h => by
  obtain ⟨ρ, b, ρ', R, ev, kk⟩ := h
  refine eqO_imp ⟨ρ, _, ρ', R, tst_ok ev, fun v H' x R' r => ?_⟩
  cases (show Rep C.G H' v (.bl b) from r)
  exact ⟨b, rfl, kk H' x R'⟩
/-! ### repr -/
def dRepr : Ops
  | [.bl b] => some (.val (.str (if b then "True" else "False")))
  | _ => none
theorem bt_repr : bootBuiltins "repr" = some (.builtin "repr") := by decide +kernel
theorem calld_repr : CallR X (.builtin "repr") (rOs G dRepr) := by
  intro pins s σ H xs us Q I r h
  obtain ⟨ds, h, t, ev, k⟩ := h
  unfold dRepr at ev
  split at ev
  · cases ev
    obtain ⟨v, rfl, t1⟩ := t.one
    obtain rfl := t1.inv_bl
    obtain ⟨u, rfl, ru⟩ := vals1 r
    cases ru
    exact PySem.P.repr_of_bool ⟨.str _, H, I.tok _, ⟨_, rfl⟩, k _ H Grow.refl (.str _)⟩
  · cases ev
end
end Ft
set_option Elab.async false
set_option linter.all false
set_option maxRecDepth 100000
set_option maxHeartbeats 2000000
/-! FtZd: x += e on ints; defs of the module called by keyword. -/
namespace Ft
open PySem PySem.Spec PyProof.Rows L2
/-- x += e, x -= e, of ints -/
def svAug (i : Nat) (g : Int → Int → Int) (f : EV) : SV := fun ρ => match ρ[i]? with
  | some (.sh (.int a)) => do
    let (d, ρ1) ← given f ρ
    match d with
    | .int b => do
      let ρ2 ← Res.of (ρ1.store i (.val (.int (g a b))))
      pure (.next, ρ2)
    | _ => .bad
  | _ => .bad
section
variable {X : Cx} {C : Ct} {σ : L2.St} {H H' : Hp} {ρ ρ' : Rho} {a b c e o : Expr} {es : List Expr} {f fa fb fo : EV} {gc : CV} {pos p apos : Pos} {x : Str}
theorem ps_svAug {i : Nat} {op : Operator} {g : Int → Int → Int} {pos' : Pos} (hN : X.N.Nodup) (hi : X.N[i]? = some x) (hx : Loc X.env.scope x) (ho : PIp X op (ipI g)) (he : PE X e (tEv C f)) (hf : X.fn x = true ∨ X.env.scope.names.lookup x = some .local := by first | exact .inl rfl | exact .inr rfl | assumption) :
    PS X (.AugAssign (.Name x pos') op e pos) (tSv C (svAug i g f)) := ps_imp (ps_aug hN hi hx (pe_give he) ho hf) fun D σ H q => by
  obtain ⟨ρ, o, ρ', R, ev, k⟩ := q
  unfold svAug at ev
  split at ev
  · rename_i a hs
    obtain ⟨⟨d, ρ1⟩, e1, ea⟩ := Res.bind_ok ev
    dsimp only at ea
    split at ea
    · rename_i b
      obtain ⟨ρ2, e2, eb⟩ := Res.bind_ok ea
      cases Res.pure_ok eb
      obtain ⟨v, hv, rv⟩ := R.sh i _ hs
      cases rv
      refine ⟨_, hv, ρ, .val (.int b), ρ1, R, given_ok e1, fun w H1 x1 R1 r1 => ?_⟩
      cases (show Rep C.G H1 w (.int b) from r1)
      refine ⟨a, b, rfl, rfl, ?_⟩
      exact k _ H1 x1 (R1.stored (Res.of_ok e2) (show HR C σ H1 ρ1 (.int (g a b)) (.val (.int (g a b))) from .int _))
    · cases ea
  · cases ev
/-- a def of the module with keyword-only parameters, called with all of them -/
structure DkwOk (P : Program) (w : World) (K : PySem.W.Frag) (mg : Str → Option Value) (base : Heap) (G : Pg) (x : Str) (k np : Nat) (ms : List Bool) (fn : FnV) (ks : List Str) : Prop where
  ex : ∃ f fd ps gU, FnOk P w K mg base CX0 k f fd ps (spF G ms fn) ∧ mg x = some (.ref f) ∧ PySem.W.keepIn K (.ref f) = true ∧ KBn K fd ps np ks gU (fun vs zs => vs ++ zs) ∧ ps.length = np + ks.length
theorem pDefK {k np : Nat} {ms : List Bool} {fn : FnV} {ks : List Str} {kws : List Keyword} {gk : GV} (M : DkwOk X.prog X.w X.K X.mg X.base C.G x k np ms fn ks) (hr : Room k X.A) (ha : PA X (e :: es) (tCv C gc)) (hl : GLen gk ks.length) (hkw : PK X kws (tGv C gk)) (hg : Gl X x := by rfl)
    (hall : (backToKw pos (keywordEach kws X.env)).all (·.1.isSome) = true := by rfl) (hks : (backToKw pos (keywordEach kws X.env)).filterMap (·.1) = ks := by rfl) (hdb : (x == ("__debug__" : Str)) = false := by decide +kernel)
    (he : starEach (e :: es) X.env = (false, eval e X.env) :: starEach es X.env := by rfl) (hpl : ((backTo pos (starEach (e :: es) X.env)).any (·.1) || (backToKw pos (keywordEach kws X.env)).any (·.1.isNone)) = false := by rfl) :
    PE X (.Call (.Name x p) (e :: es) kws pos) (tEv C (evCall ms fn [] (cvK gc gk putKw))) := by
  obtain ⟨f, fd, ps, gU, F, hm, hk, hb, hn⟩ := M.ex
  refine pe_imp (pe_callN (E := E0) F hr hg hm hk hb pass0 ha hkw hall hks hdb he hpl) fun σ H Q h => ?_
  have z := call_imp (dvs := []) (E := E0) (fun _ => .nil) h
  have q := cvK_imp (gV := fun vs zs => vs ++ zs) (fun a b => putKw_ok a b) z
  obtain ⟨ρ, hs, ρ1, R, e1, k1⟩ := q
  refine ⟨ρ, hs, ρ1, R, e1, fun vs H1 x1 R1 r1 => ?_⟩
  obtain ⟨ρ2, ds, ρ3, R2, e2, k2⟩ := k1 vs H1 x1 R1 r1
  refine ⟨ρ2, ds, ρ3, R2, e2, fun zs H2 x2 R3 r2 => ?_⟩
  have w := k2 zs H2 x2 R3 r2
  simp only [List.append_nil] at w
  have ltot := F.len _ _ _ _ w
  have lz : zs.length = ks.length := r2.length.trans (hl _ _ _ e2)
  rw [List.length_append] at ltot
  exact ⟨by omega, lz, w⟩
end
/-- a def of the module whose one keyword-only parameter y is None if it is not given -/
def DFnK1 (K : PySem.W.Frag) (mg : Str → Option Value) (x : Str) (st : Stmt) (y : Str) : Prop := ∃ f fd, FunD K x x (defArgs st) (defBody st) (defScope st) [] [(y, .non)] f fd ∧ mg x = some (.ref f)
theorem dfnK1 {K : PySem.W.Frag} {mg : Str → Option Value} {h : Heap} {x y : Str} {st : Stmt} {f D : Addr} {oc : Value} {od an : Option Addr} {osl : Array (Option Value)} {doc pm cdv ct : Value} (X : K.In h) (G : h.Ns mainGlobals mg) (a : PySem.W.nsIn K mainGlobals x = some (some (.ref f)))
    (l : K.lookup f = some ⟨oc, od, .func (PySem.W.fnOf x x (defArgs st) (defBody st) (defScope st) .none (.ref D) doc pm an cdv ct), osl⟩) (c : PySem.W.codeIn K cdv x = true) (k : PySem.W.keepIn K (.ref f) = true) (n : PySem.W.nsIn K D y = some (some .none)) : DFnK1 K mg x st y :=
  ⟨f, _, ⟨⟨oc, od, .none, .ref D, doc, pm, an, cdv, ct, osl, rfl, l, c, .inl ⟨rfl, rfl⟩, .inr ⟨D, rfl, fun q hq => by
    cases List.mem_singleton.mp hq
    exact ⟨.none, n, rfl⟩⟩⟩, k⟩, PySem.W.mg_of X G a⟩
/-- .. called with it -/
theorem kbn_any {K : PySem.W.Frag} {x qual : Str} {params : Arguments} {body : List Stmt} {scope : Scope} {kws : List (Str × V)} {f : Addr} {fd : FuncData} {ps ks : List Str} {n : Nat} (F : FunD K x qual params body scope [] kws f fd)
    (hb : ∀ (kV doc pm : Value) (an : Option Addr) (cdv ct : Value) (us ws : List Value), us.length = n → ws.length = ks.length → bindArgs (PySem.W.fnOf x qual params body scope .none kV doc pm an cdv ct) ⟨us, ks.zip ws⟩ = pure (ps.zip (us ++ ws))) :
    KBn K fd ps n ks (fun us ws => us ++ ws) (fun vs zs => vs ++ zs) := by
  obtain ⟨oc, od, dV, kV, doc, pm, an, cdv, ct, osl, rfl, lk, hcd, hD, hK⟩ := F.ex
  rcases hD with ⟨_, rfl⟩ | ⟨e, _⟩
  · exact ⟨fun s us ws _ h1 h2 => .of_eq (hb kV doc pm an cdv ct us ws h1 h2), fun a b => a.append b⟩
  · exact absurd rfl e
end Ft
set_option Elab.async false
set_option linter.all false
set_option maxRecDepth 100000
set_option maxHeartbeats 2000000
/-! FtZe: a tuple, some times. -/
namespace Ft
open PySem PySem.Spec PyProof.Rows L2
theorem reps_rep {G : Pg} {H : Hp} {xs : List V} {ds : List D} (r : Reps G H xs ds) : ∀ n, Reps G H (List.replicate n xs).flatten (List.replicate n ds).flatten
  | 0 => .nil
  | n + 1 => by
    rw [List.replicate_succ, List.replicate_succ, List.flatten_cons, List.flatten_cons]
    exact r.append (reps_rep r n)
def dTRep : Op2
  | .tup ds, .int k => if decide (0 < ds.length) && decide (2 ≤ k) && decide (k ≤ 1000) && decide (ds.length ≤ 1000) then some (.val (.tup (List.replicate k.toNat ds).flatten)) else none
  | _, _ => none
theorem opd_trep {X : Cx} {G : Pg} (hK : X.K = G.K) : OpR X (binaryOp .Mult) (rO2 G dTRep) := by
  intro pins s σ H x y v u Q I rx ry h
  obtain ⟨d, e, h, t1, t2, ev, k⟩ := h
  cases d <;> cases e <;> simp only [dTRep, reduceCtorEq] at ev
  split at ev
  · rename_i hc
    cases ev
    simp only [Bool.and_eq_true, decide_eq_true_eq] at hc
    obtain ⟨⟨⟨h0, h1⟩, h2⟩, h3⟩ := hc
    obtain ⟨a, xs, rfl, ha, ra⟩ := t1.inv_tup
    obtain rfl := t2.inv_int
    rw [← hK] at ha
    have hl := ra.length
    refine op_repT pins s σ H _ _ v u Q I rx ry ⟨a, _, xs, rfl, rfl, ha, fun z => ?_, h1, h2, by rw [hl]; exact h3, fun p hp => ?_⟩
    · rw [z] at hl
      rw [← hl] at h0
      exact absurd h0 (by simp)
    · rename_i ds i
      have z := nr_tup hp (reps_rep ra i.toNat)
      exact k _ _ z.1 z.2
  · cases ev
end Ft
set_option Elab.async false
set_option linter.all false
set_option maxRecDepth 100000
set_option maxHeartbeats 4000000
namespace Lw
open PySem L2 Ft
def top (i : Nat) : Stmt := PySem.Challenge.pw_fewtouched_k31_views_of_pieces.main.body.getD i (.Pass ⟨0, 0, 0, 0⟩)
def tab : List Str := ["own_keys", "own_columns", "own_tables", "own_changing", "own_every"]
abbrev Gx (K : PySem.W.Frag) (cls atm : Nat → Addr) : Pg := ⟨K, cls, nmOf tab, atm⟩
/-- what the top of the program has written -/
structure Tx (K : PySem.W.Frag) (mg : Str → Option Value) (cls : Nat → Addr) : Prop where
  inj : ∀ i j, nmOf tab i = nmOf tab j → i = j
  b_abs : mg "abs" = none
  b_all : mg "all" = none
  b_any : mg "any" = none
  b_dict : mg "dict" = none
  b_enumerate : mg "enumerate" = none
  b_int : mg "int" = none
  b_isinstance : mg "isinstance" = none
  b_len : mg "len" = none
  b_list : mg "list" = none
  b_max : mg "max" = none
  b_min : mg "min" = none
  b_range : mg "range" = none
  b_set : mg "set" = none
  b_sorted : mg "sorted" = none
  b_str : mg "str" = none
  b_tuple : mg "tuple" = none
  b_zip : mg "zip" = none
  g_CHANGING : GStr mg "CHANGING" "changing"
  g_LETTERS : GStr mg "LETTERS" "abcdefghijklmnopqrstuvwxyz"
  g_MAX_COLUMNS : GInt mg "MAX_COLUMNS" 6
  g_MAX_LETTERS : GInt mg "MAX_LETTERS" 8
  g_MAX_TABLES : GInt mg "MAX_TABLES" 6
  g_MOST_COLUMNS : GInt mg "MOST_COLUMNS" 4
  i_Scene : ClsI K (cls 0)
  c_Scene : mg "Scene" = some (.ref (cls 0))
  n_Scene_own_changing : NoAttr K (cls 0) "own_changing"
  n_Scene_own_columns : NoAttr K (cls 0) "own_columns"
  n_Scene_own_every : NoAttr K (cls 0) "own_every"
  n_Scene_own_keys : NoAttr K (cls 0) "own_keys"
  n_Scene_own_tables : NoAttr K (cls 0) "own_tables"
section
variable {P : Program} {w : World} {K : PySem.W.Frag} {mg : Str → Option Value} {base : Heap} {cls atm : Nat → Addr}
/-- Scene.__contains__ -/
def b_Scenedd_containsdd : SV := svRet (evB (bvAnd (tst (evIsi (isB "str") (evVar 1))) (tst (evOp2 dIn (evVar 1) (evFld [0] 1 (evVar 0))))))
def fn_Scenedd_containsdd : FnV := fnOf 0 [false, false] b_Scenedd_containsdd
abbrev s_Scenedd_containsdd : Stmt := inClass (top 23) 18
theorem S_Scenedd_containsdd : FnScope ["self", "value"] ["self", "value"] (defScope s_Scenedd_containsdd) := ⟨rfl, rfl, rfl, by decide +kernel, rfl, by decide +kernel, by decide +kernel⟩
theorem ok_Scenedd_containsdd (T : Tx K mg cls) {f : Addr} {fd : FuncData} (F : Fun K "__contains__" "Scene.__contains__" s_Scenedd_containsdd f fd) : FnOk P w K mg base CX0 1 f fd ["self", "value"] (spF (Gx K cls atm) [false, false] fn_Scenedd_containsdd) :=
  have S := S_Scenedd_containsdd
  ok_def F S rfl rfl fun cdv A outer s H E H0 M hr => by
    have hu := hr.units
    exact pss_last (ps_svRet (pe_andB (pe_asB (pIsB (T := "str") rfl T.b_isinstance T.b_str bt_str (pN 1 rfl (Or.inl rfl)))) (pe_one (pe_asB (pe_cmp2 (opd_in rfl hu) (pN 1 rfl (Or.inl rfl)) (pFld (cs := [0]) 1 T.inj (one_cls T.i_Scene T.n_Scene_own_columns) (pN 0 rfl (Or.inl rfl))) rfl)))))
/-- is_name -/
def b_is_name : SV := svSeq (svIf (bvOr (bvNot (tst (evIsi (isB "str") (evVar 0)))) (bvNot (tst (evChain dLe dLe (evC (.int 1)) (evOps dLen (avCons (evVar 0) (avNil))) (evC (.int 8)))))) (svRet (evC (.bl false))) (svNext)) (svRet (evOps dAll (avCons (evLc (ivOf (evVar 0)) (gtName 1) (bvYes) (evOp2 dIn (evVar 1) (evC (.str "abcdefghijklmnopqrstuvwxyz"))) [1]) (avNil))))
def fn_is_name : FnV := fnOf 1 [false] b_is_name
abbrev s_is_name : Stmt := top 10
theorem S_is_name : FnScope ["value", "letter"] ["value"] (defScope s_is_name) := ⟨rfl, rfl, rfl, by decide +kernel, rfl, by decide +kernel, by decide +kernel⟩
theorem ok_is_name (T : Tx K mg cls) {f : Addr} {fd : FuncData} (F : Fun K "is_name" "is_name" s_is_name f fd) : FnOk P w K mg base CX0 1 f fd ["value"] (spF (Gx K cls atm) [false] fn_is_name) :=
  have S := S_is_name
  ok_def F S rfl rfl fun cdv A outer s H E H0 M hr => by
    have hu := hr.units
    exact pss_seq (ps_svIf (pt_orB (pt_notB (pt_ev (pIsB (T := "str") rfl T.b_isinstance T.b_str bt_str (pN 0 rfl (Or.inl rfl))) (fun _ => rfl))) (pt_oneO (pt_notB (pt_chain2 (opd_le) (opd_le) (pe_evInt) (pB bt_len T.b_len (calld_len rfl) (pa_avCons (pN 0 rfl (Or.inl rfl)) (pa_avNil))) (pGi T.g_MAX_LETTERS) rfl)))) (pss_last (ps_svRet (pe_evBl))) (pss_none)) (pss_last (ps_svRet (pB bt_all T.b_all (calld_all rfl) (pa_avCons (pe_evLc (own := [("letter", 1)]) rfl S.nd (pi_ivOf rfl (pN 0 rfl (Or.inl rfl))) (blkOk_by (by show blkC ["value", "letter"] (defScope s_is_name) _ _ = true; decide +kernel)) (fun _ _ _ _ _ _ => pg_gtName (i := 1) S.nd rfl (Or.inl rfl) (by decide)) (fun _ _ _ _ _ _ => pts_bvYes) (fun _ _ _ _ _ _ => pe_cmp2 (opd_in rfl hu) (pN 1 rfl (Or.inl rfl)) (pGs T.g_LETTERS) rfl)) (pa_avNil)))))
/-- told_dict -/
def b_told_dict : SV := svSeq (svIf (tst (evOp2 dIsNon (evVar 0) (evC .non))) (svRet (evNewD)) (svNext)) (svSeq (svIf (bvOr (bvNot (tst (evIsi (isB "dict") (evVar 0)))) (bvNot (tst (evOps dAll (avCons (evLc (ivOf (evVar 0)) (gtName 1) (bvYes) (evCall [false] fn_is_name [] (cvFr (evVar 1) (cvNil))) [1]) (avNil)))))) (svBad) (svNext)) (svRet (evVar 0)))
def fn_told_dict : FnV := fnOf 1 [false] b_told_dict
abbrev s_told_dict : Stmt := top 20
theorem S_told_dict : FnScope ["value", "name"] ["value"] (defScope s_told_dict) := ⟨rfl, rfl, rfl, by decide +kernel, rfl, by decide +kernel, by decide +kernel⟩
theorem ok_told_dict (T : Tx K mg cls) (D_is_name : DefOk P w K mg base (Gx K cls atm) "is_name" 1 [false] fn_is_name []) {f : Addr} {fd : FuncData} (F : Fun K "told_dict" "told_dict" s_told_dict f fd) : FnOk P w K mg base CX0 2 f fd ["value"] (spF (Gx K cls atm) [false] fn_told_dict) :=
  have S := S_told_dict
  ok_def F S rfl rfl fun cdv A outer s H E H0 M hr => by
    have hu := hr.units
    exact pss_seq (ps_svIf (pt_cmp2 (opd_is) (pN 0 rfl (Or.inl rfl)) (pe_evNon) (nomark _)) (pss_last (ps_svRet (pe_evNewD))) (pss_none)) (pss_seq (ps_svIf (pt_orB (pt_notB (pt_ev (pIsB (T := "dict") rfl T.b_isinstance T.b_dict bt_dict (pN 0 rfl (Or.inl rfl))) (fun _ => rfl))) (pt_oneO (pt_notB (pt_ev (pB bt_all T.b_all (calld_all rfl) (pa_avCons (pe_evLc (own := [("name", 1)]) rfl S.nd (pi_ivOf rfl (pN 0 rfl (Or.inl rfl))) (blkOk_by (by show blkC ["value", "name"] (defScope s_told_dict) _ _ = true; decide +kernel)) (fun _ _ _ _ _ _ => pg_gtName (i := 1) S.nd rfl (Or.inl rfl) (by decide)) (fun _ _ _ _ _ _ => pts_bvYes) (fun _ _ _ _ _ _ => pDef D_is_name (hr.mono (by decide)) (pa_cvFr (pN 1 rfl (Or.inl rfl)) (pa_cvNil)))) (pa_avNil))) (fun _ => rfl))))) (pss_svBad) (pss_none)) (pss_last (ps_svRet (pN 0 rfl (Or.inl rfl)))))
/-- ascending_names -/
def b_ascending_names : SV := svSeq (svIf (bvOr (bvNot (tst (evIsi (isB "tuple") (evVar 0)))) (bvOr (bvNot (tst (evOps dAll (avCons (evLc (ivOf (evVar 0)) (gtName 1) (bvYes) (evCall [false] fn_is_name [] (cvFr (evVar 1) (cvNil))) [1]) (avNil))))) (tst (evOp2 dLt (evLenSet (evVar 0)) (evOps dLen (avCons (evVar 0) (avNil))))))) (svBad) (svNext)) (svRet (evOps dTuple (avCons (evOps dSorted (avCons (evVar 0) (avNil))) (avNil))))
def fn_ascending_names : FnV := fnOf 1 [false] b_ascending_names
abbrev s_ascending_names : Stmt := top 17
theorem S_ascending_names : FnScope ["value", "name"] ["value"] (defScope s_ascending_names) := ⟨rfl, rfl, rfl, by decide +kernel, rfl, by decide +kernel, by decide +kernel⟩
theorem ok_ascending_names (T : Tx K mg cls) (D_is_name : DefOk P w K mg base (Gx K cls atm) "is_name" 1 [false] fn_is_name []) {f : Addr} {fd : FuncData} (F : Fun K "ascending_names" "ascending_names" s_ascending_names f fd) : FnOk P w K mg base CX0 2 f fd ["value"] (spF (Gx K cls atm) [false] fn_ascending_names) :=
  have S := S_ascending_names
  ok_def F S rfl rfl fun cdv A outer s H E H0 M hr => by
    have hu := hr.units
    exact pss_seq (ps_svIf (pt_orB (pt_notB (pt_ev (pIsB (T := "tuple") rfl T.b_isinstance T.b_tuple bt_tuple (pN 0 rfl (Or.inl rfl))) (fun _ => rfl))) (pw_orB (pt_notB (pt_ev (pB bt_all T.b_all (calld_all rfl) (pa_avCons (pe_evLc (own := [("name", 1)]) rfl S.nd (pi_ivOf rfl (pN 0 rfl (Or.inl rfl))) (blkOk_by (by show blkC ["value", "name"] (defScope s_ascending_names) _ _ = true; decide +kernel)) (fun _ _ _ _ _ _ => pg_gtName (i := 1) S.nd rfl (Or.inl rfl) (by decide)) (fun _ _ _ _ _ _ => pts_bvYes) (fun _ _ _ _ _ _ => pDef D_is_name (hr.mono (by decide)) (pa_cvFr (pN 1 rfl (Or.inl rfl)) (pa_cvNil)))) (pa_avNil))) (fun _ => rfl))) (pt_oneO (pt_cmp2 (opd_lt) (pe_evLenSet rfl rfl rfl T.b_len rfl T.b_set (pN 0 rfl (Or.inl rfl))) (pB bt_len T.b_len (calld_len rfl) (pa_avCons (pN 0 rfl (Or.inl rfl)) (pa_avNil))) (nomark _))))) (pss_svBad) (pss_none)) (pss_last (ps_svRet (pT bt_tuple T.b_tuple (calld_tuple rfl) (pa_avCons (pB bt_sorted T.b_sorted (calld_sorted rfl rfl hu) (pa_avCons (pN 0 rfl (Or.inl rfl)) (pa_avNil))) (pa_avNil)))))
/-- columns_told -/
def b_columns_told : SV := svSeq (svSet 1 (evCall [false] fn_ascending_names [] (cvFr (evVar 0) (cvNil)))) (svSeq (svIf (tst (evOp2 dGt (evOps dLen (avCons (evVar 1) (avNil))) (evC (.int 4)))) (svBad) (svNext)) (svRet (evVar 1)))
def fn_columns_told : FnV := fnOf 1 [false] b_columns_told
abbrev s_columns_told : Stmt := top 18
theorem S_columns_told : FnScope ["value", "found"] ["value"] (defScope s_columns_told) := ⟨rfl, rfl, rfl, by decide +kernel, rfl, by decide +kernel, by decide +kernel⟩
theorem ok_columns_told (T : Tx K mg cls) (D_ascending_names : DefOk P w K mg base (Gx K cls atm) "ascending_names" 2 [false] fn_ascending_names []) {f : Addr} {fd : FuncData} (F : Fun K "columns_told" "columns_told" s_columns_told f fd) : FnOk P w K mg base CX0 3 f fd ["value"] (spF (Gx K cls atm) [false] fn_columns_told) :=
  have S := S_columns_told
  ok_def F S rfl rfl fun cdv A outer s H E H0 M hr => by
    have hu := hr.units
    exact pss_seq (ps_svSet (i := 1) S.nd rfl (Or.inl rfl) (pDef D_ascending_names (hr.mono (by decide)) (pa_cvFr (pN 0 rfl (Or.inl rfl)) (pa_cvNil)))) (pss_seq (ps_svIf (pt_cmp2 (opd_gt) (pB bt_len T.b_len (calld_len rfl) (pa_avCons (pN 1 rfl (Or.inl rfl)) (pa_avNil))) (pGi T.g_MOST_COLUMNS) (nomark _)) (pss_svBad) (pss_none)) (pss_last (ps_svRet (pN 1 rfl (Or.inl rfl)))))
/-- key_told -/
def b_key_told : SV := svSeq (svSet 2 (evCall [false] fn_ascending_names [] (cvFr (evVar 1) (cvNil)))) (svSeq (svIf (bvNot (tst (evOps dAll (avCons (evLc (ivOf (evVar 2)) (gtName 3) (bvYes) (evOp2 dIn (evVar 3) (evVar 0)) [3]) (avNil))))) (svBad) (svNext)) (svRet (evVar 2)))
def fn_key_told : FnV := fnOf 2 [false, false] b_key_told
abbrev s_key_told : Stmt := top 19
theorem S_key_told : FnScope ["columns", "value", "found", "column"] ["columns", "value"] (defScope s_key_told) := ⟨rfl, rfl, rfl, by decide +kernel, rfl, by decide +kernel, by decide +kernel⟩
theorem ok_key_told (T : Tx K mg cls) (D_ascending_names : DefOk P w K mg base (Gx K cls atm) "ascending_names" 2 [false] fn_ascending_names []) {f : Addr} {fd : FuncData} (F : Fun K "key_told" "key_told" s_key_told f fd) : FnOk P w K mg base CX0 3 f fd ["columns", "value"] (spF (Gx K cls atm) [false, false] fn_key_told) :=
  have S := S_key_told
  ok_def F S rfl rfl fun cdv A outer s H E H0 M hr => by
    have hu := hr.units
    exact pss_seq (ps_svSet (i := 2) S.nd rfl (Or.inl rfl) (pDef D_ascending_names (hr.mono (by decide)) (pa_cvFr (pN 1 rfl (Or.inl rfl)) (pa_cvNil)))) (pss_seq (ps_svIf (pt_notB (pt_ev (pB bt_all T.b_all (calld_all rfl) (pa_avCons (pe_evLc (own := [("column", 3)]) rfl S.nd (pi_ivOf rfl (pN 2 rfl (Or.inl rfl))) (blkOk_by (by show blkC ["columns", "value", "found", "column"] (defScope s_key_told) _ _ = true; decide +kernel)) (fun _ _ _ _ _ _ => pg_gtName (i := 3) S.nd rfl (Or.inl rfl) (by decide)) (fun _ _ _ _ _ _ => pts_bvYes) (fun _ _ _ _ _ _ => pe_cmp2 (opd_in rfl hu) (pN 3 rfl (Or.inl rfl)) (pN 0 rfl (Or.inr (Or.inl rfl))) rfl)) (pa_avNil))) (fun _ => rfl))) (pss_svBad) (pss_none)) (pss_last (ps_svRet (pN 2 rfl (Or.inl rfl)))))
/-- Scene.__init__ -/
def b_Scenedd_initdd : SV := svSeq (svPar3 4 5 6 (evCall [false] fn_told_dict [] (cvFr (evVar 1) (cvNil))) (evCall [false] fn_told_dict [] (cvFr (evVar 2) (cvNil))) (evCall [false] fn_told_dict [] (cvFr (evVar 3) (cvNil)))) (svSeq (svIf (bvOr (tst (evOps dAny (avCons (evLc (ivOf (evVar 4)) (gtName 9) (bvYes) (evOp2 dIn (evVar 9) (evVar 5)) [9]) (avNil)))) (bvNot (tst (evOps dAll (avCons (evLc (ivOf (evVar 6)) (gtName 9) (bvYes) (evOp2 dIn (evVar 9) (evVar 5)) [9]) (avNil)))))) (svBad) (svNext)) (svSeq (svSet 7 (evMerge (evVar 4) (evVar 5))) (svSeq (svSet 8 (evDc (ivOf (evOps dSorted (avCons (evVar 7) (avNil)))) (gtName 9) (bvYes) (evVar 9) (evCall [false] fn_columns_told [] (cvFr (evOp2 dIx (evVar 7) (evVar 9)) (cvNil))) [9])) (svSeq (svFld [0] 0 0 (evDc (ivOf (evOps dSorted (avCons (evVar 6) (avNil)))) (gtName 9) (bvYes) (evVar 9) (evCall [false,false] fn_key_told [] (cvFr (evOp2 dIx (evVar 8) (evVar 9)) (cvFr (evOp2 dIx (evVar 6) (evVar 9)) (cvNil)))) [9])) (svSeq (svFld [0] 0 1 (evVar 8)) (svSeq (svFld [0] 0 2 (evOps dTuple (avCons (evOps dSorted (avCons (evVar 7) (avNil))) (avNil)))) (svSeq (svFld [0] 0 3 (evOps dTuple (avCons (evOps dSorted (avCons (evVar 4) (avNil))) (avNil)))) (svSeq (svFld [0] 0 4 (evOps dTuple (avCons (evSortSet (evLc2 (ivOf (evVar 8)) (gtName 9) (bvYes) (ivOf (evOp2 dIx (evVar 8) (evVar 9))) (gtName 10) (bvYes) (evVar 10) [9, 10] [10])) (avNil)))) (svIf (bvOr (bvNot (tst (evChain dLe dLe (evC (.int 1)) (evOps dLen (avCons (evVar 7) (avNil))) (evC (.int 6))))) (tst (evOp2 dGt (evOps dLen (avCons (evFld [0] 4 (evVar 0)) (avNil))) (evC (.int 6))))) (svBad) (svNext))))))))))
def fn_Scenedd_initdd : FnV := fnOf 7 [true, false, false, false] b_Scenedd_initdd
abbrev s_Scenedd_initdd : Stmt := inClass (top 23) 0
theorem S_Scenedd_initdd : FnScope ["self", "changing", "fixed", "keyed", "moving", "still", "keys", "told", "columns", "table", "column"] ["self", "changing", "fixed", "keyed"] (defScope s_Scenedd_initdd) := ⟨rfl, rfl, rfl, by decide +kernel, rfl, by decide +kernel, by decide +kernel⟩
theorem ok_Scenedd_initdd (T : Tx K mg cls) (D_columns_told : DefOk P w K mg base (Gx K cls atm) "columns_told" 3 [false] fn_columns_told []) (D_key_told : DefOk P w K mg base (Gx K cls atm) "key_told" 3 [false, false] fn_key_told []) (D_told_dict : DefOk P w K mg base (Gx K cls atm) "told_dict" 2 [false] fn_told_dict []) {f : Addr} {fd : FuncData} {dvs : List V} {kws : List (Str × V)} (F : FunD K "__init__" "Scene.__init__" (defArgs s_Scenedd_initdd) (defBody s_Scenedd_initdd) (defScope s_Scenedd_initdd) dvs kws f fd) : FnOk P w K mg base CX0 4 f fd ["self", "changing", "fixed", "keyed"] (spF (Gx K cls atm) [true, false, false, false] fn_Scenedd_initdd) :=
  have S := S_Scenedd_initdd
  ok_defD F S rfl rfl fun cdv A outer s H E H0 M hr => by
    have hu := hr.units
    exact pss_seq (ps_svParT3 (i := 4) (j := 5) (l := 6) rfl rfl S.nd rfl rfl rfl (Or.inl rfl) (Or.inr rfl) (Or.inr rfl) (pDef D_told_dict (hr.mono (by decide)) (pa_cvFr (pN 1 rfl (Or.inl rfl)) (pa_cvNil))) (fun _ => pDef D_told_dict (hr.mono (by decide)) (pa_cvFr (pN 2 rfl (Or.inl rfl)) (pa_cvNil))) (fun _ => pDef D_told_dict (hr.mono (by decide)) (pa_cvFr (pN 3 rfl (Or.inl rfl)) (pa_cvNil)))) (pss_seq (ps_svIf (pt_orB (pt_ev (pB bt_any T.b_any (calld_any rfl) (pa_avCons (pe_evLc (own := [("table", 9)]) rfl S.nd (pi_ivOf rfl (pN 4 rfl (Or.inl rfl))) (blkOk_by (by show blkC ["self", "changing", "fixed", "keyed", "moving", "still", "keys", "told", "columns", "table", "column"] (defScope s_Scenedd_initdd) _ _ = true; decide +kernel)) (fun _ _ _ _ _ _ => pg_gtName (i := 9) S.nd rfl (Or.inl rfl) (by decide)) (fun _ _ _ _ _ _ => pts_bvYes) (fun _ _ _ _ _ _ => pe_cmp2 (opd_in rfl hu) (pN 9 rfl (Or.inl rfl)) (pN 5 rfl (Or.inr (Or.inl rfl))) rfl)) (pa_avNil))) (fun _ => rfl)) (pt_oneO (pt_notB (pt_ev (pB bt_all T.b_all (calld_all rfl) (pa_avCons (pe_evLc (own := [("table", 9)]) rfl S.nd (pi_ivOf rfl (pN 6 rfl (Or.inr (Or.inl rfl)))) (blkOk_by (by show blkC ["self", "changing", "fixed", "keyed", "moving", "still", "keys", "told", "columns", "table", "column"] (defScope s_Scenedd_initdd) _ _ = true; decide +kernel)) (fun _ _ _ _ _ _ => pg_gtName (i := 9) S.nd rfl (Or.inl rfl) (by decide)) (fun _ _ _ _ _ _ => pts_bvYes) (fun _ _ _ _ _ _ => pe_cmp2 (opd_in rfl hu) (pN 9 rfl (Or.inl rfl)) (pN 5 rfl (Or.inr (Or.inl rfl))) rfl)) (pa_avNil))) (fun _ => rfl))))) (pss_svBad) (pss_none)) (pss_seq (ps_svSet (i := 7) S.nd rfl (Or.inr rfl) (pe_evMerge (fun _ => pN 4 rfl (Or.inl rfl)) (fun _ => pN 5 rfl (Or.inr (Or.inl rfl))))) (pss_seq (ps_svSet (i := 8) S.nd rfl (Or.inr rfl) (pe_evDc (own := [("table", 9)]) rfl S.nd (pi_ivOf rfl (pB bt_sorted T.b_sorted (calld_sorted rfl rfl hu) (pa_avCons (pN 7 rfl (Or.inr (Or.inl rfl))) (pa_avNil)))) (blkOk_by (by show blkC ["self", "changing", "fixed", "keyed", "moving", "still", "keys", "told", "columns", "table", "column"] (defScope s_Scenedd_initdd) _ _ = true; decide +kernel)) (fun _ _ _ _ _ _ => pg_gtName (i := 9) S.nd rfl (Or.inl rfl) (by decide)) (fun _ _ _ _ _ _ => pts_bvYes) (fun _ _ _ _ _ _ => pN 9 rfl (Or.inl rfl)) (fun _ _ _ _ _ _ => pDef D_columns_told (hr.mono (by decide)) (pa_cvFr (pe_index (ixd rfl hu) (pN 7 rfl (Or.inr (Or.inl rfl))) (pN 9 rfl (Or.inl rfl)) (fun _ _ => rfl)) (pa_cvNil))))) (pss_seq (ps_svFld (cs := [0]) (i := 0) (k' := 0) T.inj rfl (one_cls T.i_Scene T.n_Scene_own_keys) rfl (Or.inl rfl) (by decide +kernel) (by decide +kernel) (pe_evDc (own := [("table", 9)]) rfl S.nd (pi_ivOf rfl (pB bt_sorted T.b_sorted (calld_sorted rfl rfl hu) (pa_avCons (pN 6 rfl (Or.inr (Or.inl rfl))) (pa_avNil)))) (blkOk_by (by show blkC ["self", "changing", "fixed", "keyed", "moving", "still", "keys", "told", "columns", "table", "column"] (defScope s_Scenedd_initdd) _ _ = true; decide +kernel)) (fun _ _ _ _ _ _ => pg_gtName (i := 9) S.nd rfl (Or.inl rfl) (by decide)) (fun _ _ _ _ _ _ => pts_bvYes) (fun _ _ _ _ _ _ => pN 9 rfl (Or.inl rfl)) (fun _ _ _ _ _ _ => pDef D_key_told (hr.mono (by decide)) (pa_cvFr (pe_index (ixd rfl hu) (pN 8 rfl (Or.inr (Or.inl rfl))) (pN 9 rfl (Or.inl rfl)) (fun _ _ => rfl)) (pa_cvFr (pe_index (ixd rfl hu) (pN 6 rfl (Or.inr (Or.inl rfl))) (pN 9 rfl (Or.inl rfl)) (fun _ _ => rfl)) (pa_cvNil)))))) (pss_seq (ps_svFld (cs := [0]) (i := 0) (k' := 1) T.inj rfl (one_cls T.i_Scene T.n_Scene_own_columns) rfl (Or.inl rfl) (by decide +kernel) (by decide +kernel) (pN 8 rfl (Or.inr (Or.inl rfl)))) (pss_seq (ps_svFld (cs := [0]) (i := 0) (k' := 2) T.inj rfl (one_cls T.i_Scene T.n_Scene_own_tables) rfl (Or.inl rfl) (by decide +kernel) (by decide +kernel) (pT bt_tuple T.b_tuple (calld_tuple rfl) (pa_avCons (pB bt_sorted T.b_sorted (calld_sorted rfl rfl hu) (pa_avCons (pN 7 rfl (Or.inr (Or.inl rfl))) (pa_avNil))) (pa_avNil)))) (pss_seq (ps_svFld (cs := [0]) (i := 0) (k' := 3) T.inj rfl (one_cls T.i_Scene T.n_Scene_own_changing) rfl (Or.inl rfl) (by decide +kernel) (by decide +kernel) (pT bt_tuple T.b_tuple (calld_tuple rfl) (pa_avCons (pB bt_sorted T.b_sorted (calld_sorted rfl rfl hu) (pa_avCons (pN 4 rfl (Or.inl rfl)) (pa_avNil))) (pa_avNil)))) (pss_seq (ps_svFld (cs := [0]) (i := 0) (k' := 4) T.inj rfl (one_cls T.i_Scene T.n_Scene_own_every) rfl (Or.inl rfl) (by decide +kernel) (by decide +kernel) (pT bt_tuple T.b_tuple (calld_tuple rfl) (pa_avCons (pe_evSortSet rfl rfl hu rfl T.b_sorted rfl T.b_set (pe_evLc2 (own := [("table", 9), ("column", 10)]) (vs1 := [10]) rfl S.nd (pi_ivOf rfl (pN 8 rfl (Or.inr (Or.inl rfl)))) (blkOk_by (by show blkC ["self", "changing", "fixed", "keyed", "moving", "still", "keys", "told", "columns", "table", "column"] (defScope s_Scenedd_initdd) _ _ = true; decide +kernel)) (by decide) (fun _ _ _ _ _ _ => pg_gtName (i := 9) S.nd rfl (Or.inl rfl) (by decide)) (fun _ _ _ _ _ _ => pts_bvYes) (fun _ _ _ _ _ _ => pi_ivOf rfl (pe_index (ixd rfl hu) (pN 8 rfl (Or.inr (Or.inl rfl))) (pN 9 rfl (Or.inl rfl)) (fun _ _ => rfl))) (fun _ _ _ _ _ _ => pg_gtName (i := 10) S.nd rfl (Or.inl rfl) (by decide)) (fun _ _ _ _ _ _ => pts_bvYes) (fun _ _ _ _ _ _ => pN 10 rfl (Or.inl rfl)))) (pa_avNil)))) (pss_last (ps_svIf (pt_orB (pt_notB (pt_chain2 (opd_le) (opd_le) (pe_evInt) (pB bt_len T.b_len (calld_len rfl) (pa_avCons (pN 7 rfl (Or.inr (Or.inl rfl))) (pa_avNil))) (pGi T.g_MAX_TABLES) rfl)) (pt_oneO (pt_cmp2 (opd_gt) (pB bt_len T.b_len (calld_len rfl) (pa_avCons (pFld (cs := [0]) 4 T.inj (one_cls T.i_Scene T.n_Scene_own_every) (pN 0 rfl (Or.inl rfl))) (pa_avNil))) (pGi T.g_MAX_COLUMNS) (nomark _)))) (pss_svBad) (pss_none)))))))))))
/-- is_line -/
def b_is_line : SV := svRet (evB (bvAnd (tst (evIsi (isB "tuple") (evVar 0))) (bvAnd (tst (evOp2 dEq (evOps dLen (avCons (evVar 0) (avNil))) (evC (.int 3)))) (tst (evCall [false] fn_is_name [] (cvFr (evOp2 dIx (evVar 0) (evC (.int 0))) (cvNil)))))))
def fn_is_line : FnV := fnOf 0 [false] b_is_line
abbrev s_is_line : Stmt := top 21
theorem S_is_line : FnScope ["value"] ["value"] (defScope s_is_line) := ⟨rfl, rfl, rfl, by decide +kernel, rfl, by decide +kernel, by decide +kernel⟩
theorem ok_is_line (T : Tx K mg cls) (D_is_name : DefOk P w K mg base (Gx K cls atm) "is_name" 1 [false] fn_is_name []) {f : Addr} {fd : FuncData} (F : Fun K "is_line" "is_line" s_is_line f fd) : FnOk P w K mg base CX0 2 f fd ["value"] (spF (Gx K cls atm) [false] fn_is_line) :=
  have S := S_is_line
  ok_def F S rfl rfl fun cdv A outer s H E H0 M hr => by
    have hu := hr.units
    exact pss_last (ps_svRet (pe_andB (pe_asB (pIsB (T := "tuple") rfl T.b_isinstance T.b_tuple bt_tuple (pN 0 rfl (Or.inl rfl)))) (pe_andB (pe_asB (pe_cmp2 (opd_eq rfl hu) (pB bt_len T.b_len (calld_len rfl) (pa_avCons (pN 0 rfl (Or.inl rfl)) (pa_avNil))) (pe_evInt) (nomark _))) (pe_one (pe_asB (pDef D_is_name (hr.mono (by decide)) (pa_cvFr (pe_index (ixd rfl hu) (pN 0 rfl (Or.inl rfl)) (pe_evInt) (fun _ _ => rfl)) (pa_cvNil))))))))
/-- scene_in -/
def b_scene_in : SV := svSeq (svIf (bvOr (bvNot (tst (evIsi (isB "tuple") (evVar 0)))) (bvNot (tst (evOps dAll (avCons (evLc (ivOf (evVar 0)) (gtName 7) (bvYes) (evCall [false] fn_is_line [] (cvFr (evVar 7) (cvNil))) [7]) (avNil)))))) (svBad) (svNext)) (svSeq (svIf (tst (evOp2 dLt (evLenSet (evLc (ivOf (evVar 0)) (gtName 7) (bvYes) (evOp2 dIx (evVar 7) (evC (.int 0))) [7])) (evOps dLen (avCons (evVar 0) (avNil))))) (svBad) (svNext)) (svSeq (svSet 1 (evNewD)) (svSeq (svSet 2 (evNewD)) (svSeq (svSet 3 (evNewD)) (svSeq (svFor (ivOf (evVar 0)) (gtTup 3 (gtCons (gtName 4) (gtCons (gtName 5) (gtCons (gtName 6) (gtNil))))) (svIf (bvAnd (tst (evIsi (isB "str") (evVar 6))) (tst (evOp2 dEq (evVar 6) (evC (.str "changing"))))) (svSub 1 (evVar 4) (evVar 5)) (svSeq (svSub 2 (evVar 4) (evVar 5)) (svIf (tst (evOp2 dIsNotNon (evVar 6) (evC .non))) (svSub 3 (evVar 4) (evVar 6)) (svNext))))) (svRet (evMake 0 fn_Scenedd_initdd (gvCons (evVar 1) (gvCons (evVar 2) (gvCons (evVar 3) (gvNil)))) fun ds => ds)))))))
def fn_scene_in : FnV := fnOf 7 [false] b_scene_in
abbrev s_scene_in : Stmt := top 22
theorem S_scene_in : FnScope ["lines", "changing", "fixed", "keyed", "table", "columns", "key", "line"] ["lines"] (defScope s_scene_in) := ⟨rfl, rfl, rfl, by decide +kernel, rfl, by decide +kernel, by decide +kernel⟩
theorem ok_scene_in (T : Tx K mg cls) (M_Scenedd_initdd : MakOk P w K mg base (Gx K cls atm) 0 "Scene" 4 3 fn_Scenedd_initdd ["changing", "fixed", "keyed"]) (D_is_line : DefOk P w K mg base (Gx K cls atm) "is_line" 2 [false] fn_is_line []) {f : Addr} {fd : FuncData} (F : Fun K "scene_in" "scene_in" s_scene_in f fd) : FnOk P w K mg base CX0 6 f fd ["lines"] (spF (Gx K cls atm) [false] fn_scene_in) :=
  have S := S_scene_in
  ok_def F S rfl rfl fun cdv A outer s H E H0 M hr => by
    have hu := hr.units
    exact pss_seq (ps_svIf (pt_orB (pt_notB (pt_ev (pIsB (T := "tuple") rfl T.b_isinstance T.b_tuple bt_tuple (pN 0 rfl (Or.inl rfl))) (fun _ => rfl))) (pt_oneO (pt_notB (pt_ev (pB bt_all T.b_all (calld_all rfl) (pa_avCons (pe_evLc (own := [("line", 7)]) rfl S.nd (pi_ivOf rfl (pN 0 rfl (Or.inl rfl))) (blkOk_by (by show blkC ["lines", "changing", "fixed", "keyed", "table", "columns", "key", "line"] (defScope s_scene_in) _ _ = true; decide +kernel)) (fun _ _ _ _ _ _ => pg_gtName (i := 7) S.nd rfl (Or.inl rfl) (by decide)) (fun _ _ _ _ _ _ => pts_bvYes) (fun _ _ _ _ _ _ => pDef D_is_line (hr.mono (by decide)) (pa_cvFr (pN 7 rfl (Or.inl rfl)) (pa_cvNil)))) (pa_avNil))) (fun _ => rfl))))) (pss_svBad) (pss_none)) (pss_seq (ps_svIf (pt_cmp2 (opd_lt) (pe_evLenSet rfl rfl rfl T.b_len rfl T.b_set (pe_evLc (own := [("line", 7)]) rfl S.nd (pi_ivOf rfl (pN 0 rfl (Or.inl rfl))) (blkOk_by (by show blkC ["lines", "changing", "fixed", "keyed", "table", "columns", "key", "line"] (defScope s_scene_in) _ _ = true; decide +kernel)) (fun _ _ _ _ _ _ => pg_gtName (i := 7) S.nd rfl (Or.inl rfl) (by decide)) (fun _ _ _ _ _ _ => pts_bvYes) (fun _ _ _ _ _ _ => pe_index (ixd rfl hu) (pN 7 rfl (Or.inl rfl)) (pe_evInt) (fun _ _ => rfl)))) (pB bt_len T.b_len (calld_len rfl) (pa_avCons (pN 0 rfl (Or.inl rfl)) (pa_avNil))) (nomark _)) (pss_svBad) (pss_none)) (pss_seq (ps_svSet (i := 1) S.nd rfl (Or.inl rfl) (pe_evNewD)) (pss_seq (ps_svSet (i := 2) S.nd rfl (Or.inl rfl) (pe_evNewD)) (pss_seq (ps_svSet (i := 3) S.nd rfl (Or.inl rfl) (pe_evNewD)) (pss_seq (ps_svFor (ws := [4, 5, 6]) PassesOwn.never rfl (pi_ivOf rfl (pN 0 rfl (Or.inl rfl))) (pg_gtTup rfl rfl (pgs_gtCons (pg_gtName (i := 4) S.nd rfl (Or.inl rfl) (by decide)) (pgs_gtCons (pg_gtName (i := 5) S.nd rfl (Or.inl rfl) (by decide)) (pgs_gtCons (pg_gtName (i := 6) S.nd rfl (Or.inl rfl) (by decide)) (pgs_gtNil))))) (pss_last (ps_svIf (pt_andB (pt_ev (pIsB (T := "str") rfl T.b_isinstance T.b_str bt_str (pN 6 rfl (Or.inl rfl))) (fun _ => rfl)) (pt_one (pt_cmp2 (opd_eq rfl hu) (pN 6 rfl (Or.inl rfl)) (pGs T.g_CHANGING) (nomark _)))) (pss_last (ps_svSub (i := 1) hu rfl (Or.inl rfl) (by decide +kernel) (by decide +kernel) (pN 4 rfl (Or.inl rfl)) (pN 5 rfl (Or.inl rfl)))) (pss_seq (ps_svSub (i := 2) hu rfl (Or.inl rfl) (by decide +kernel) (by decide +kernel) (pN 4 rfl (Or.inl rfl)) (pN 5 rfl (Or.inl rfl))) (pss_last (ps_svIf (pt_cmp2 (opd_isNot) (pN 6 rfl (Or.inl rfl)) (pe_evNon) (nomark _)) (pss_last (ps_svSub (i := 3) hu rfl (Or.inl rfl) (by decide +kernel) (by decide +kernel) (pN 4 rfl (Or.inl rfl)) (pN 6 rfl (Or.inl rfl)))) (pss_none))))))) (pss_last (ps_svRet (pMake M_Scenedd_initdd (hr.mono (by decide)) (len_cons (len_cons (len_cons (len_nil)))) (pk_gvCons (pN 1 rfl (Or.inl rfl)) (pk_gvCons (pN 2 rfl (Or.inl rfl)) (pk_gvCons (pN 3 rfl (Or.inl rfl)) (pk_gvNil))))))))))))
/-- Scene.of -/
def b_Scene_of : SV := svRet (evCall [false] fn_scene_in [] (cvFr (evVar 1) (cvNil)))
def fn_Scene_of : FnV := fnOf 0 [false, false] b_Scene_of
abbrev s_Scene_of : Stmt := inClass (top 23) 1
theorem S_Scene_of : FnScope ["cls", "lines"] ["cls", "lines"] (defScope s_Scene_of) := ⟨rfl, rfl, rfl, by decide +kernel, rfl, by decide +kernel, by decide +kernel⟩
theorem ok_Scene_of (T : Tx K mg cls) (D_scene_in : DefOk P w K mg base (Gx K cls atm) "scene_in" 6 [false] fn_scene_in []) {f : Addr} {fd : FuncData} (F : Fun K "of" "Scene.of" s_Scene_of f fd) : FnOk P w K mg base CX0 7 f fd ["cls", "lines"] (spF (Gx K cls atm) [false, false] fn_Scene_of) :=
  have S := S_Scene_of
  ok_def F S rfl rfl fun cdv A outer s H E H0 M hr => by
    have hu := hr.units
    exact pss_last (ps_svRet (pDef D_scene_in (hr.mono (by decide)) (pa_cvFr (pN 1 rfl (Or.inl rfl)) (pa_cvNil))))
/-- _law_dice -/
def b__law_dice : SV := svSeq (svSet 2 (evIf (tst (evOp2 dLt (evVar 1) (evOps dLen (avCons (evVar 0) (avNil))))) (evOp2 dIx (evVar 0) (evVar 1)) (evOp2 dAdd (evOp2 dMul (evC (.int 31)) (evVar 1)) (evC (.int 14))))) (svSeq (svSet 3 (evOp2 dMod (evOps dInt (avCons (evOps dAbs (avCons (evVar 2) (avNil))) (avNil))) (evOp2 dPow (evOp2 dPow (evC (.int 10)) (evC (.int 59))) (evC (.int 11))))) (svSeq (svSet 4 (evOp2 dAdd (evOp2 dAdd (evOp2 dAdd (evOp2 dMul (evVar 3) (evC (.int 3202034522624059733))) (evOp2 dMul (evC (.int 67)) (evVar 1))) (evOp2 dMul (evC (.int 17)) (evOps dInt (avCons (evOp2 dLt (evVar 2) (evC (.int 0))) (avNil))))) (evC (.int 3)))) (svRet (evLst (gvCons (evOps dMax (avCons (evC (.int 0)) (avCons (evOp2 dSub (evVar 3) (evOp2 dPow (evC (.int 10)) (evC (.int 18)))) (avNil)))) (gvCons (evOp2 dMod (evOps dInt (avCons (evVar 4) (avNil))) (evC (.int 2305843009213693921))) (gvCons (evC (.int 0)) (gvNil))))))))
def fn__law_dice : FnV := fnOf 3 [false, false] b__law_dice
abbrev s__law_dice : Stmt := top 51
theorem S__law_dice : FnScope ["script", "spot", "cell", "great", "blend"] ["script", "spot"] (defScope s__law_dice) := ⟨rfl, rfl, rfl, by decide +kernel, rfl, by decide +kernel, by decide +kernel⟩
theorem ok__law_dice (T : Tx K mg cls) {f : Addr} {fd : FuncData} (F : Fun K "_law_dice" "_law_dice" s__law_dice f fd) : FnOk P w K mg base CX0 1 f fd ["script", "spot"] (spF (Gx K cls atm) [false, false] fn__law_dice) :=
  have S := S__law_dice
  ok_def F S rfl rfl fun cdv A outer s H E H0 M hr => by
    have hu := hr.units
    exact pss_seq (ps_svSet (i := 2) S.nd rfl (Or.inl rfl) (pe_ifB (pt_cmp2 (opd_lt) (pN 1 rfl (Or.inl rfl)) (pB bt_len T.b_len (calld_len rfl) (pa_avCons (pN 0 rfl (Or.inl rfl)) (pa_avNil))) (nomark _)) (pe_index (ixd rfl hu) (pN 0 rfl (Or.inl rfl)) (pN 1 rfl (Or.inl rfl)) (fun _ _ => rfl)) (pe_bin (opd_add rfl) (pe_bin (opd_mul) (pe_evInt) (pN 1 rfl (Or.inl rfl))) (pe_evInt)))) (pss_seq (ps_svSet (i := 3) S.nd rfl (Or.inl rfl) (pe_bin (opd_mod) (pT bt_int T.b_int (calld_int) (pa_avCons (pB bt_abs T.b_abs (calld_abs) (pa_avCons (pN 2 rfl (Or.inl rfl)) (pa_avNil))) (pa_avNil))) (pe_bin (opd_pow) (pe_bin (opd_pow) (pe_evInt) (pe_evInt)) (pe_evInt)))) (pss_seq (ps_svSet (i := 4) S.nd rfl (Or.inl rfl) (pe_bin (opd_add rfl) (pe_bin (opd_add rfl) (pe_bin (opd_add rfl) (pe_bin (opd_mul) (pN 3 rfl (Or.inl rfl)) (pe_evInt)) (pe_bin (opd_mul) (pe_evInt) (pN 1 rfl (Or.inl rfl)))) (pe_bin (opd_mul) (pe_evInt) (pT bt_int T.b_int (calld_int) (pa_avCons (pe_cmp2 (opd_lt) (pN 2 rfl (Or.inl rfl)) (pe_evInt) (nomark _)) (pa_avNil))))) (pe_evInt))) (pss_last (ps_svRet (pe_evLst (pa_gvCons (pB bt_max T.b_max (calld_max rfl) (pa_avCons (pe_evInt) (pa_avCons (pe_bin (opd_sub) (pN 3 rfl (Or.inl rfl)) (pe_bin (opd_pow) (pe_evInt) (pe_evInt))) (pa_avNil)))) (pa_gvCons (pe_bin (opd_mod) (pT bt_int T.b_int (calld_int) (pa_avCons (pN 4 rfl (Or.inl rfl)) (pa_avNil))) (pe_evInt)) (pa_gvCons (pe_evInt) (pa_gvNil)))))))))
/-- require_scene -/
def b_require_scene : SV := svIf (bvNot (tst (evIsi (isC 0) (evVar 0)))) (svBad) (svNext)
def fn_require_scene : FnV := fnOf 0 [false] b_require_scene
abbrev s_require_scene : Stmt := top 27
theorem S_require_scene : FnScope ["scene"] ["scene"] (defScope s_require_scene) := ⟨rfl, rfl, rfl, by decide +kernel, rfl, by decide +kernel, by decide +kernel⟩
theorem ok_require_scene (T : Tx K mg cls) {f : Addr} {fd : FuncData} (F : Fun K "require_scene" "require_scene" s_require_scene f fd) : FnOk P w K mg base CX0 1 f fd ["scene"] (spF (Gx K cls atm) [false] fn_require_scene) :=
  have S := S_require_scene
  ok_def F S rfl rfl fun cdv A outer s H E H0 M hr => by
    have hu := hr.units
    exact pss_last (ps_svIf (pt_notB (pt_ev (pIsC (c0 := 0) rfl T.b_isinstance T.c_Scene T.i_Scene (pN 0 rfl (Or.inl rfl))) (fun _ => rfl))) (pss_svBad) (pss_none))
/-- is_columns -/
def b_is_columns : SV := svSeq (svIf (bvOr (bvNot (tst (evIsi (isB "tuple") (evVar 0)))) (bvNot (tst (evOps dAll (avCons (evLc (ivOf (evVar 0)) (gtName 1) (bvYes) (evCall [false] fn_is_name [] (cvFr (evVar 1) (cvNil))) [1]) (avNil)))))) (svRet (evC (.bl false))) (svNext)) (svRet (evOps dAll (avCons (evLc (ivZip (evVar 0) (evSl (evVar 0) (pvOf (evC (.int 1))) (pvNo))) (gtTup 2 (gtCons (gtName 1) (gtCons (gtName 2) (gtNil)))) (bvYes) (evOp2 dLt (evVar 1) (evVar 2)) [1, 2]) (avNil))))
def fn_is_columns : FnV := fnOf 2 [false] b_is_columns
abbrev s_is_columns : Stmt := top 11
theorem S_is_columns : FnScope ["value", "one", "other"] ["value"] (defScope s_is_columns) := ⟨rfl, rfl, rfl, by decide +kernel, rfl, by decide +kernel, by decide +kernel⟩
theorem ok_is_columns (T : Tx K mg cls) (D_is_name : DefOk P w K mg base (Gx K cls atm) "is_name" 1 [false] fn_is_name []) {f : Addr} {fd : FuncData} (F : Fun K "is_columns" "is_columns" s_is_columns f fd) : FnOk P w K mg base CX0 2 f fd ["value"] (spF (Gx K cls atm) [false] fn_is_columns) :=
  have S := S_is_columns
  ok_def F S rfl rfl fun cdv A outer s H E H0 M hr => by
    have hu := hr.units
    exact pss_seq (ps_svIf (pt_orB (pt_notB (pt_ev (pIsB (T := "tuple") rfl T.b_isinstance T.b_tuple bt_tuple (pN 0 rfl (Or.inl rfl))) (fun _ => rfl))) (pt_oneO (pt_notB (pt_ev (pB bt_all T.b_all (calld_all rfl) (pa_avCons (pe_evLc (own := [("one", 1)]) rfl S.nd (pi_ivOf rfl (pN 0 rfl (Or.inl rfl))) (blkOk_by (by show blkC ["value", "one", "other"] (defScope s_is_columns) _ _ = true; decide +kernel)) (fun _ _ _ _ _ _ => pg_gtName (i := 1) S.nd rfl (Or.inl rfl) (by decide)) (fun _ _ _ _ _ _ => pts_bvYes) (fun _ _ _ _ _ _ => pDef D_is_name (hr.mono (by decide)) (pa_cvFr (pN 1 rfl (Or.inl rfl)) (pa_cvNil)))) (pa_avNil))) (fun _ => rfl))))) (pss_last (ps_svRet (pe_evBl))) (pss_none)) (pss_last (ps_svRet (pB bt_all T.b_all (calld_all rfl) (pa_avCons (pe_evLc (own := [("one", 1), ("other", 2)]) rfl S.nd (pi_ivZip rfl rfl T.b_zip (pN 0 rfl (Or.inl rfl)) (pe_evSl rfl (pN 0 rfl (Or.inl rfl)) (po_pvOf (pe_evInt)) (po_pvNo))) (blkOk_by (by show blkC ["value", "one", "other"] (defScope s_is_columns) _ _ = true; decide +kernel)) (fun _ _ _ _ _ _ => pg_gtTup rfl rfl (pgs_gtCons (pg_gtName (i := 1) S.nd rfl (Or.inl rfl) (by decide)) (pgs_gtCons (pg_gtName (i := 2) S.nd rfl (Or.inl rfl) (by decide)) (pgs_gtNil)))) (fun _ _ _ _ _ _ => pts_bvYes) (fun _ _ _ _ _ _ => pe_cmp2 (opd_lt) (pN 1 rfl (Or.inl rfl)) (pN 2 rfl (Or.inl rfl)) (nomark _))) (pa_avNil)))))
/-- Scene.columns -/
def b_Scene_columns : SV := svRet (evFld [0] 4 (evVar 0))
def fn_Scene_columns : FnV := fnOf 0 [false] b_Scene_columns
abbrev s_Scene_columns : Stmt := inClass (top 23) 5
theorem S_Scene_columns : FnScope ["self"] ["self"] (defScope s_Scene_columns) := ⟨rfl, rfl, rfl, by decide +kernel, rfl, by decide +kernel, by decide +kernel⟩
theorem ok_Scene_columns (T : Tx K mg cls) {f : Addr} {fd : FuncData} (F : Fun K "columns" "Scene.columns" s_Scene_columns f fd) : FnOk P w K mg base CX0 1 f fd ["self"] (spF (Gx K cls atm) [false] fn_Scene_columns) :=
  have S := S_Scene_columns
  ok_def F S rfl rfl fun cdv A outer s H E H0 M hr => by
    have hu := hr.units
    exact pss_last (ps_svRet (pFld (cs := [0]) 4 T.inj (one_cls T.i_Scene T.n_Scene_own_every) (pN 0 rfl (Or.inl rfl))))
/-- are_columns -/
def b_are_columns : SV := svRet (evB (bvAnd (tst (evCall [false] fn_is_columns [] (cvFr (evVar 1) (cvNil)))) (tst (evOps dAll (avCons (evLc (ivOf (evVar 1)) (gtName 2) (bvYes) (evOp2 dIn (evVar 2) (evCall [false] fn_Scene_columns [] (cvRecv [0] (evVar 0) cvNil))) [2]) (avNil))))))
def fn_are_columns : FnV := fnOf 1 [false, false] b_are_columns
abbrev s_are_columns : Stmt := top 30
theorem S_are_columns : FnScope ["scene", "value", "column"] ["scene", "value"] (defScope s_are_columns) := ⟨rfl, rfl, rfl, by decide +kernel, rfl, by decide +kernel, by decide +kernel⟩
theorem ok_are_columns (T : Tx K mg cls) (M_Scene_columns : PrpOk P w K mg base (Gx K cls atm) 0 "columns" 1 fn_Scene_columns) (D_is_columns : DefOk P w K mg base (Gx K cls atm) "is_columns" 2 [false] fn_is_columns []) {f : Addr} {fd : FuncData} (F : Fun K "are_columns" "are_columns" s_are_columns f fd) : FnOk P w K mg base CX0 3 f fd ["scene", "value"] (spF (Gx K cls atm) [false, false] fn_are_columns) :=
  have S := S_are_columns
  ok_def F S rfl rfl fun cdv A outer s H E H0 M hr => by
    have hu := hr.units
    exact pss_last (ps_svRet (pe_andB (pe_asB (pDef D_is_columns (hr.mono (by decide)) (pa_cvFr (pN 1 rfl (Or.inl rfl)) (pa_cvNil)))) (pe_one (pe_asB (pB bt_all T.b_all (calld_all rfl) (pa_avCons (pe_evLc (own := [("column", 2)]) rfl S.nd (pi_ivOf rfl (pN 1 rfl (Or.inl rfl))) (blkOk_by (by show blkC ["scene", "value", "column"] (defScope s_are_columns) _ _ = true; decide +kernel)) (fun _ _ _ _ _ _ => pg_gtName (i := 2) S.nd rfl (Or.inl rfl) (by decide)) (fun _ _ _ _ _ _ => pts_bvYes) (fun _ _ _ _ _ _ => pe_cmp2 (opd_in rfl hu) (pN 2 rfl (Or.inl rfl)) (pPrp M_Scene_columns (hr.mono (by decide)) (pN 0 rfl (Or.inr (Or.inl rfl)))) rfl)) (pa_avNil)))))))
/-- is_role_in -/
def b_is_role_in : SV := svSeq (svIf (tst (evIsi (isB "str") (evVar 1))) (svRet (evOp2 dIn (evVar 1) (evFld [0] 3 (evVar 0)))) (svNext)) (svRet (evCall [false,false] fn_are_columns [] (cvFr (evVar 0) (cvFr (evVar 1) (cvNil)))))
def fn_is_role_in : FnV := fnOf 0 [false, false] b_is_role_in
abbrev s_is_role_in : Stmt := top 33
theorem S_is_role_in : FnScope ["scene", "value"] ["scene", "value"] (defScope s_is_role_in) := ⟨rfl, rfl, rfl, by decide +kernel, rfl, by decide +kernel, by decide +kernel⟩
theorem ok_is_role_in (T : Tx K mg cls) (D_are_columns : DefOk P w K mg base (Gx K cls atm) "are_columns" 3 [false, false] fn_are_columns []) {f : Addr} {fd : FuncData} (F : Fun K "is_role_in" "is_role_in" s_is_role_in f fd) : FnOk P w K mg base CX0 4 f fd ["scene", "value"] (spF (Gx K cls atm) [false, false] fn_is_role_in) :=
  have S := S_is_role_in
  ok_def F S rfl rfl fun cdv A outer s H E H0 M hr => by
    have hu := hr.units
    exact pss_seq (ps_svIf (pt_ev (pIsB (T := "str") rfl T.b_isinstance T.b_str bt_str (pN 1 rfl (Or.inl rfl))) (fun _ => rfl)) (pss_last (ps_svRet (pe_cmp2 (opd_in rfl hu) (pN 1 rfl (Or.inl rfl)) (pFld (cs := [0]) 3 T.inj (one_cls T.i_Scene T.n_Scene_own_changing) (pN 0 rfl (Or.inl rfl))) rfl))) (pss_none)) (pss_last (ps_svRet (pDef D_are_columns (hr.mono (by decide)) (pa_cvFr (pN 0 rfl (Or.inl rfl)) (pa_cvFr (pN 1 rfl (Or.inl rfl)) (pa_cvNil))))))
/-- require_role -/
def b_require_role : SV := svIf (bvNot (tst (evCall [false,false] fn_is_role_in [] (cvFr (evVar 0) (cvFr (evVar 1) (cvNil)))))) (svBad) (svNext)
def fn_require_role : FnV := fnOf 0 [false, false] b_require_role
abbrev s_require_role : Stmt := top 34
theorem S_require_role : FnScope ["scene", "role"] ["scene", "role"] (defScope s_require_role) := ⟨rfl, rfl, rfl, by decide +kernel, rfl, by decide +kernel, by decide +kernel⟩
theorem ok_require_role (T : Tx K mg cls) (D_is_role_in : DefOk P w K mg base (Gx K cls atm) "is_role_in" 4 [false, false] fn_is_role_in []) {f : Addr} {fd : FuncData} (F : Fun K "require_role" "require_role" s_require_role f fd) : FnOk P w K mg base CX0 5 f fd ["scene", "role"] (spF (Gx K cls atm) [false, false] fn_require_role) :=
  have S := S_require_role
  ok_def F S rfl rfl fun cdv A outer s H E H0 M hr => by
    have hu := hr.units
    exact pss_last (ps_svIf (pt_notB (pt_ev (pDef D_is_role_in (hr.mono (by decide)) (pa_cvFr (pN 0 rfl (Or.inl rfl)) (pa_cvFr (pN 1 rfl (Or.inl rfl)) (pa_cvNil)))) (fun _ => rfl))) (pss_svBad) (pss_none))
/-- Scene.tables -/
def b_Scene_tables : SV := svRet (evFld [0] 2 (evVar 0))
def fn_Scene_tables : FnV := fnOf 0 [false] b_Scene_tables
abbrev s_Scene_tables : Stmt := inClass (top 23) 2
theorem S_Scene_tables : FnScope ["self"] ["self"] (defScope s_Scene_tables) := ⟨rfl, rfl, rfl, by decide +kernel, rfl, by decide +kernel, by decide +kernel⟩
theorem ok_Scene_tables (T : Tx K mg cls) {f : Addr} {fd : FuncData} (F : Fun K "tables" "Scene.tables" s_Scene_tables f fd) : FnOk P w K mg base CX0 1 f fd ["self"] (spF (Gx K cls atm) [false] fn_Scene_tables) :=
  have S := S_Scene_tables
  ok_def F S rfl rfl fun cdv A outer s H E H0 M hr => by
    have hu := hr.units
    exact pss_last (ps_svRet (pFld (cs := [0]) 2 T.inj (one_cls T.i_Scene T.n_Scene_own_tables) (pN 0 rfl (Or.inl rfl))))
/-- are_tables -/
def b_are_tables : SV := svRet (evB (bvAnd (tst (evCall [false] fn_is_columns [] (cvFr (evVar 1) (cvNil)))) (tst (evOps dAll (avCons (evLc (ivOf (evVar 1)) (gtName 2) (bvYes) (evIn false [0] fn_Scenedd_containsdd (evVar 2) (evVar 0)) [2]) (avNil))))))
def fn_are_tables : FnV := fnOf 1 [false, false] b_are_tables
abbrev s_are_tables : Stmt := top 31
theorem S_are_tables : FnScope ["scene", "value", "table"] ["scene", "value"] (defScope s_are_tables) := ⟨rfl, rfl, rfl, by decide +kernel, rfl, by decide +kernel, by decide +kernel⟩
theorem ok_are_tables (T : Tx K mg cls) (M_Scenedd_containsdd : MetOk P w K mg base (Gx K cls atm) 0 "__contains__" 1 [false, false] fn_Scenedd_containsdd) (D_is_columns : DefOk P w K mg base (Gx K cls atm) "is_columns" 2 [false] fn_is_columns []) {f : Addr} {fd : FuncData} (F : Fun K "are_tables" "are_tables" s_are_tables f fd) : FnOk P w K mg base CX0 3 f fd ["scene", "value"] (spF (Gx K cls atm) [false, false] fn_are_tables) :=
  have S := S_are_tables
  ok_def F S rfl rfl fun cdv A outer s H E H0 M hr => by
    have hu := hr.units
    exact pss_last (ps_svRet (pe_andB (pe_asB (pDef D_is_columns (hr.mono (by decide)) (pa_cvFr (pN 1 rfl (Or.inl rfl)) (pa_cvNil)))) (pe_one (pe_asB (pB bt_all T.b_all (calld_all rfl) (pa_avCons (pe_evLc (own := [("table", 2)]) rfl S.nd (pi_ivOf rfl (pN 1 rfl (Or.inl rfl))) (blkOk_by (by show blkC ["scene", "value", "table"] (defScope s_are_tables) _ _ = true; decide +kernel)) (fun _ _ _ _ _ _ => pg_gtName (i := 2) S.nd rfl (Or.inl rfl) (by decide)) (fun _ _ _ _ _ _ => pts_bvYes) (fun _ _ _ _ _ _ => pe_evIn (neg := false) rfl M_Scenedd_containsdd.to (hr.mono (by decide)) (pN 2 rfl (Or.inl rfl)) (pN 0 rfl (Or.inr (Or.inl rfl))) rfl)) (pa_avNil)))))))
/-- require_tables -/
def b_require_tables : SV := svIf (bvOr (bvNot (tst (evCall [false,false] fn_are_tables [] (cvFr (evVar 0) (cvFr (evVar 1) (cvNil)))))) (tst (evOp2 dEq (evVar 1) (evTup (gvNil))))) (svBad) (svNext)
def fn_require_tables : FnV := fnOf 0 [false, false] b_require_tables
abbrev s_require_tables : Stmt := top 32
theorem S_require_tables : FnScope ["scene", "tables"] ["scene", "tables"] (defScope s_require_tables) := ⟨rfl, rfl, rfl, by decide +kernel, rfl, by decide +kernel, by decide +kernel⟩
theorem ok_require_tables (T : Tx K mg cls) (D_are_tables : DefOk P w K mg base (Gx K cls atm) "are_tables" 3 [false, false] fn_are_tables []) {f : Addr} {fd : FuncData} (F : Fun K "require_tables" "require_tables" s_require_tables f fd) : FnOk P w K mg base CX0 4 f fd ["scene", "tables"] (spF (Gx K cls atm) [false, false] fn_require_tables) :=
  have S := S_require_tables
  ok_def F S rfl rfl fun cdv A outer s H E H0 M hr => by
    have hu := hr.units
    exact pss_last (ps_svIf (pt_orB (pt_notB (pt_ev (pDef D_are_tables (hr.mono (by decide)) (pa_cvFr (pN 0 rfl (Or.inl rfl)) (pa_cvFr (pN 1 rfl (Or.inl rfl)) (pa_cvNil)))) (fun _ => rfl))) (pt_oneO (pt_cmp2 (opd_eq rfl hu) (pN 1 rfl (Or.inl rfl)) (pe_evTup (pa_gvNil)) (nomark _)))) (pss_svBad) (pss_none))
/-- given_tables -/
def b_given_tables : SV := svSeq (svIf (tst (evOp2 dIsNon (evVar 2) (evC .non))) (svRet (evCall [false] fn_Scene_tables [] (cvRecv [0] (evVar 0) cvNil))) (svNext)) (svSeq (svExpr (evCall [false,false] fn_require_tables [] (cvFr (evVar 0) (cvFr (evVar 2) (cvNil))))) (svSeq (svIf (bvAnd (tst (evIsi (isB "str") (evVar 1))) (tst (evOp2 dNotIn (evVar 1) (evVar 2)))) (svBad) (svNext)) (svRet (evVar 2))))
def fn_given_tables : FnV := fnOf 0 [false, false, false] b_given_tables
abbrev s_given_tables : Stmt := top 41
theorem S_given_tables : FnScope ["scene", "role", "tables"] ["scene", "role", "tables"] (defScope s_given_tables) := ⟨rfl, rfl, rfl, by decide +kernel, rfl, by decide +kernel, by decide +kernel⟩
theorem ok_given_tables (T : Tx K mg cls) (M_Scene_tables : PrpOk P w K mg base (Gx K cls atm) 0 "tables" 1 fn_Scene_tables) (D_require_tables : DefOk P w K mg base (Gx K cls atm) "require_tables" 4 [false, false] fn_require_tables []) {f : Addr} {fd : FuncData} (F : Fun K "given_tables" "given_tables" s_given_tables f fd) : FnOk P w K mg base CX0 5 f fd ["scene", "role", "tables"] (spF (Gx K cls atm) [false, false, false] fn_given_tables) :=
  have S := S_given_tables
  ok_def F S rfl rfl fun cdv A outer s H E H0 M hr => by
    have hu := hr.units
    exact pss_seq (ps_svIf (pt_cmp2 (opd_is) (pN 2 rfl (Or.inl rfl)) (pe_evNon) (nomark _)) (pss_last (ps_svRet (pPrp M_Scene_tables (hr.mono (by decide)) (pN 0 rfl (Or.inl rfl))))) (pss_none)) (pss_seq (ps_svExpr (pDef D_require_tables (hr.mono (by decide)) (pa_cvFr (pN 0 rfl (Or.inl rfl)) (pa_cvFr (pN 2 rfl (Or.inl rfl)) (pa_cvNil))))) (pss_seq (ps_svIf (pt_andB (pt_ev (pIsB (T := "str") rfl T.b_isinstance T.b_str bt_str (pN 1 rfl (Or.inl rfl))) (fun _ => rfl)) (pt_one (pt_cmp2 (opd_notIn rfl hu) (pN 1 rfl (Or.inl rfl)) (pN 2 rfl (Or.inl rfl)) rfl))) (pss_svBad) (pss_none)) (pss_last (ps_svRet (pN 2 rfl (Or.inl rfl))))))
/-- closing_steps -/
def b_closing_steps : SV := svSeq (svPar 3 4 (evDc (ivOf (evVar 1)) (gtName 7) (bvYes) (evVar 7) (evC (.bl true)) [7]) (evLst (gvNil))) (svSeq (svSet 5 (evLc (ivOf (evOps dSorted (avCons (evVar 2) (avNil)))) (gtName 8) (tst (evOp2 dIn (evVar 8) (evFld [0] 0 (evVar 0)))) (evVar 8) [8])) (whileLoop (tst (evC (.bl true))) (svSeq (svSet 6 (evLc (ivOf (evVar 5)) (gtName 8) (tst (evOps dAll (avCons (evLc (ivOf (evOp2 dIx (evFld [0] 0 (evVar 0)) (evVar 8))) (gtName 7) (bvYes) (evOp2 dIn (evVar 7) (evVar 3)) [7]) (avNil)))) (evVar 8) [8])) (svSeq (svIf (tst (evOp2 dEq (evVar 6) (evLst (gvNil)))) (svRet (evTup (gvCons (evVar 4) (gvCons (evVar 3) (gvNil))))) (svNext)) (svSeq (svExpr (evMth .lst 4 mAppend (gvCons (evOp2 dIx (evVar 6) (evC (.int 0))) (gvNil)))) (svSeq (svExpr (evMth .dct 3 mUpdate (gvCons (evDc (ivOf (evOp2 dIx (evFld [0] 1 (evVar 0)) (evOp2 dIx (evVar 6) (evC (.int 0))))) (gtName 7) (bvYes) (evVar 7) (evC (.bl true)) [7]) (gvNil)))) (svSet 5 (evLc (ivOf (evVar 5)) (gtName 8) (tst (evOp2 dNe (evVar 8) (evOp2 dIx (evVar 6) (evC (.int 0))))) (evVar 8) [8])))))) 1000000))
def fn_closing_steps : FnV := fnOf 6 [false, false, false] b_closing_steps
abbrev s_closing_steps : Stmt := top 37
theorem S_closing_steps : FnScope ["scene", "columns", "tables", "known", "used", "left", "ready", "column", "table"] ["scene", "columns", "tables"] (defScope s_closing_steps) := ⟨rfl, rfl, rfl, by decide +kernel, rfl, by decide +kernel, by decide +kernel⟩
theorem ok_closing_steps (T : Tx K mg cls) {f : Addr} {fd : FuncData} (F : Fun K "closing_steps" "closing_steps" s_closing_steps f fd) : FnOk P w K mg base CX0 1 f fd ["scene", "columns", "tables"] (spF (Gx K cls atm) [false, false, false] fn_closing_steps) :=
  have S := S_closing_steps
  ok_def F S rfl rfl fun cdv A outer s H E H0 M hr => by
    have hu := hr.units
    exact pss_seq (ps_svParT (i := 3) (j := 4) rfl rfl S.nd rfl rfl (Or.inr rfl) (Or.inl rfl) (pe_evDc (own := [("column", 7)]) rfl S.nd (pi_ivOf rfl (pN 1 rfl (Or.inl rfl))) (blkOk_by (by show blkC ["scene", "columns", "tables", "known", "used", "left", "ready", "column", "table"] (defScope s_closing_steps) _ _ = true; decide +kernel)) (fun _ _ _ _ _ _ => pg_gtName (i := 7) S.nd rfl (Or.inl rfl) (by decide)) (fun _ _ _ _ _ _ => pts_bvYes) (fun _ _ _ _ _ _ => pN 7 rfl (Or.inl rfl)) (fun _ _ _ _ _ _ => pe_evBl)) (fun _ => pe_evLst (pa_gvNil))) (pss_seq (ps_svSetLc (i := 5) (own := [("table", 8)]) rfl S.nd rfl rfl rfl (pi_ivOf rfl (pB bt_sorted T.b_sorted (calld_sorted rfl rfl hu) (pa_avCons (pN 2 rfl (Or.inl rfl)) (pa_avNil)))) (blkOk_by (by show blkC ["scene", "columns", "tables", "known", "used", "left", "ready", "column", "table"] (defScope s_closing_steps) _ _ = true; decide +kernel)) (fun _ _ _ _ _ _ => pg_gtName (i := 8) S.nd rfl (Or.inl rfl) (by decide)) (fun _ _ _ _ _ _ => pts_bv (pt_cmp2 (opd_in rfl hu) (pN 8 rfl (Or.inl rfl)) (pFld (cs := [0]) 0 T.inj (one_cls T.i_Scene T.n_Scene_own_keys) (pN 0 rfl (Or.inr (Or.inl rfl)))) rfl)) (fun _ _ _ _ _ _ => pN 8 rfl (Or.inl rfl))) (pss_last (ps_svWhile (n := 1000000) PassesOwn.never (pt_ev (pe_evBl) (fun _ => rfl)) (pss_seq (ps_svSet (i := 6) S.nd rfl (Or.inr rfl) (pe_evLc (own := [("table", 8)]) rfl S.nd (pi_ivOf rfl (pN 5 rfl (Or.inl rfl))) (blkOk_by (by show blkC ["scene", "columns", "tables", "known", "used", "left", "ready", "column", "table"] (defScope s_closing_steps) _ _ = true; decide +kernel)) (fun _ _ _ _ _ _ => pg_gtName (i := 8) S.nd rfl (Or.inl rfl) (by decide)) (fun _ _ _ _ _ _ => pts_bv (pt_ev (pB bt_all T.b_all (calld_all rfl) (pa_avCons (pe_evLc (own := [("column", 7)]) rfl S.nd (pi_ivOf rfl (pe_index (ixd rfl hu) (pFld (cs := [0]) 0 T.inj (one_cls T.i_Scene T.n_Scene_own_keys) (pN 0 rfl (Or.inr (Or.inl rfl)))) (pN 8 rfl (Or.inl rfl)) (fun _ _ => rfl))) (blkOk_by (by show blkC ["scene", "columns", "tables", "known", "used", "left", "ready", "column", "table"] (relS _ (defScope s_closing_steps)) _ _ = true; decide +kernel)) (fun _ _ _ _ _ _ => pg_gtName (i := 7) S.nd rfl (Or.inl rfl) (by decide)) (fun _ _ _ _ _ _ => pts_bvYes) (fun _ _ _ _ _ _ => pe_cmp2 (opd_in rfl hu) (pN 7 rfl (Or.inl rfl)) (pN 3 rfl (Or.inr (Or.inl rfl))) rfl)) (pa_avNil))) (fun _ => rfl))) (fun _ _ _ _ _ _ => pN 8 rfl (Or.inl rfl)))) (pss_seq (ps_svIf (pt_cmp2 (opd_eq rfl hu) (pN 6 rfl (Or.inr (Or.inl rfl))) (pe_evLst (pa_gvNil)) (nomark _)) (pss_last (ps_svRet (pe_evTup (pa_gvCons (pN 4 rfl (Or.inl rfl)) (pa_gvCons (pN 3 rfl (Or.inr (Or.inl rfl))) (pa_gvNil)))))) (pss_none)) (pss_seq (ps_svExpr (pAppend 4 (Or.inl rfl) (pa_gvCons (pe_index (ixd rfl hu) (pN 6 rfl (Or.inr (Or.inl rfl))) (pe_evInt) (fun _ _ => rfl)) (pa_gvNil)))) (pss_seq (ps_svExpr (pUpdate 3 (Or.inr (Or.inl rfl)) (pa_gvCons (pe_evDc (own := [("column", 7)]) rfl S.nd (pi_ivOf rfl (pe_index (ixd rfl hu) (pFld (cs := [0]) 1 T.inj (one_cls T.i_Scene T.n_Scene_own_columns) (pN 0 rfl (Or.inr (Or.inl rfl)))) (pe_index (ixd rfl hu) (pN 6 rfl (Or.inr (Or.inl rfl))) (pe_evInt) (fun _ _ => rfl)) (fun _ _ => rfl))) (blkOk_by (by show blkC ["scene", "columns", "tables", "known", "used", "left", "ready", "column", "table"] (defScope s_closing_steps) _ _ = true; decide +kernel)) (fun _ _ _ _ _ _ => pg_gtName (i := 7) S.nd rfl (Or.inl rfl) (by decide)) (fun _ _ _ _ _ _ => pts_bvYes) (fun _ _ _ _ _ _ => pN 7 rfl (Or.inl rfl)) (fun _ _ _ _ _ _ => pe_evBl)) (pa_gvNil)))) (pss_last (ps_svSetLc (i := 5) (own := [("table", 8)]) rfl S.nd rfl rfl rfl (pi_ivOf rfl (pN 5 rfl (Or.inl rfl))) (blkOk_by (by show blkC ["scene", "columns", "tables", "known", "used", "left", "ready", "column", "table"] (defScope s_closing_steps) _ _ = true; decide +kernel)) (fun _ _ _ _ _ _ => pg_gtName (i := 8) S.nd rfl (Or.inl rfl) (by decide)) (fun _ _ _ _ _ _ => pts_bv (pt_cmp2 (opd_ne rfl hu) (pN 8 rfl (Or.inl rfl)) (pe_index (ixd rfl hu) (pN 6 rfl (Or.inr (Or.inl rfl))) (pe_evInt) (fun _ _ => rfl)) (nomark _))) (fun _ _ _ _ _ _ => pN 8 rfl (Or.inl rfl)))))))))))
/-- closure_in -/
def b_closure_in : SV := svSeq (svAsg (gtTup 2 (gtCons (gtName 3) (gtCons (gtName 4) (gtNil)))) (evCall [false,false,false] fn_closing_steps [] (cvFr (evVar 0) (cvFr (evVar 1) (cvFr (evVar 2) (cvNil)))))) (svRet (evOps dTuple (avCons (evOps dSorted (avCons (evVar 4) (avNil))) (avNil))))
def fn_closure_in : FnV := fnOf 2 [false, false, false] b_closure_in
abbrev s_closure_in : Stmt := top 38
theorem S_closure_in : FnScope ["scene", "columns", "tables", "used", "known"] ["scene", "columns", "tables"] (defScope s_closure_in) := ⟨rfl, rfl, rfl, by decide +kernel, rfl, by decide +kernel, by decide +kernel⟩
theorem ok_closure_in (T : Tx K mg cls) (D_closing_steps : DefOk P w K mg base (Gx K cls atm) "closing_steps" 1 [false, false, false] fn_closing_steps []) {f : Addr} {fd : FuncData} (F : Fun K "closure_in" "closure_in" s_closure_in f fd) : FnOk P w K mg base CX0 2 f fd ["scene", "columns", "tables"] (spF (Gx K cls atm) [false, false, false] fn_closure_in) :=
  have S := S_closure_in
  ok_def F S rfl rfl fun cdv A outer s H E H0 M hr => by
    have hu := hr.units
    exact pss_seq (ps_svAsg (ws := [3, 4]) (pDef D_closing_steps (hr.mono (by decide)) (pa_cvFr (pN 0 rfl (Or.inl rfl)) (pa_cvFr (pN 1 rfl (Or.inl rfl)) (pa_cvFr (pN 2 rfl (Or.inl rfl)) (pa_cvNil))))) (pg_gtTup rfl rfl (pgs_gtCons (pg_gtName (i := 3) S.nd rfl (Or.inl rfl) (by decide)) (pgs_gtCons (pg_gtName (i := 4) S.nd rfl (Or.inl rfl) (by decide)) (pgs_gtNil))))) (pss_last (ps_svRet (pT bt_tuple T.b_tuple (calld_tuple rfl) (pa_avCons (pB bt_sorted T.b_sorted (calld_sorted rfl rfl hu) (pa_avCons (pN 4 rfl (Or.inl rfl)) (pa_avNil))) (pa_avNil)))))
/-- role_columns -/
def b_role_columns : SV := svRet (evIf (tst (evIsi (isB "str") (evVar 1))) (evOp2 dIx (evFld [0] 1 (evVar 0)) (evVar 1)) (evVar 1))
def fn_role_columns : FnV := fnOf 0 [false, false] b_role_columns
abbrev s_role_columns : Stmt := top 35
theorem S_role_columns : FnScope ["scene", "role"] ["scene", "role"] (defScope s_role_columns) := ⟨rfl, rfl, rfl, by decide +kernel, rfl, by decide +kernel, by decide +kernel⟩
theorem ok_role_columns (T : Tx K mg cls) {f : Addr} {fd : FuncData} (F : Fun K "role_columns" "role_columns" s_role_columns f fd) : FnOk P w K mg base CX0 1 f fd ["scene", "role"] (spF (Gx K cls atm) [false, false] fn_role_columns) :=
  have S := S_role_columns
  ok_def F S rfl rfl fun cdv A outer s H E H0 M hr => by
    have hu := hr.units
    exact pss_last (ps_svRet (pe_ifB (pt_ev (pIsB (T := "str") rfl T.b_isinstance T.b_str bt_str (pN 1 rfl (Or.inl rfl))) (fun _ => rfl)) (pe_index (ixd rfl hu) (pFld (cs := [0]) 1 T.inj (one_cls T.i_Scene T.n_Scene_own_columns) (pN 0 rfl (Or.inl rfl))) (pN 1 rfl (Or.inl rfl)) (fun _ _ => rfl)) (pN 1 rfl (Or.inl rfl))))
/-- joined_to -/
def b_joined_to : SV := svSeq (svPar 3 4 (evLst (gvCons (evVar 0) (gvNil))) (evC (.int 0))) (svSeq (whileLoop (tst (evOp2 dLt (evVar 4) (evOps dLen (avCons (evVar 3) (avNil))))) (svSeq (svFor (ivOf (evVar 1)) (gtName 5) (svIf (bvAnd (tst (evOp2 dNotIn (evVar 5) (evVar 3))) (tst (evOps dAny (avCons (evLc (ivOf (evOp2 dIx (evVar 2) (evOp2 dIx (evVar 3) (evVar 4)))) (gtName 6) (bvYes) (evOp2 dIn (evVar 6) (evOp2 dIx (evVar 2) (evVar 5))) [6]) (avNil))))) (svExpr (evMth .lst 3 mAppend (gvCons (evVar 5) (gvNil)))) (svNext))) (svAug 4 (fun i j => i + j) (evC (.int 1)))) 1000000) (svRet (evOps dTuple (avCons (evOps dSorted (avCons (evVar 3) (avNil))) (avNil)))))
def fn_joined_to : FnV := fnOf 4 [false, false, false] b_joined_to
abbrev s_joined_to : Stmt := top 42
theorem S_joined_to : FnScope ["table", "tables", "outside", "found", "at", "other", "column"] ["table", "tables", "outside"] (defScope s_joined_to) := ⟨rfl, rfl, rfl, by decide +kernel, rfl, by decide +kernel, by decide +kernel⟩
theorem ok_joined_to (T : Tx K mg cls) {f : Addr} {fd : FuncData} (F : Fun K "joined_to" "joined_to" s_joined_to f fd) : FnOk P w K mg base CX0 1 f fd ["table", "tables", "outside"] (spF (Gx K cls atm) [false, false, false] fn_joined_to) :=
  have S := S_joined_to
  ok_def F S rfl rfl fun cdv A outer s H E H0 M hr => by
    have hu := hr.units
    exact pss_seq (ps_svPar (i := 3) (j := 4) rfl S.nd rfl rfl (by decide) rfl rfl (pe_evLst (pa_gvCons (pN 0 rfl (Or.inl rfl)) (pa_gvNil))) (fun _ => pe_evInt) rfl) (pss_seq (ps_svWhile (n := 1000000) PassesOwn.never (pt_cmp2 (opd_lt) (pN 4 rfl (Or.inl rfl)) (pB bt_len T.b_len (calld_len rfl) (pa_avCons (pN 3 rfl (Or.inl rfl)) (pa_avNil))) (nomark _)) (pss_seq (ps_svFor (ws := [5]) PassesOwn.never rfl (pi_ivOf rfl (pN 1 rfl (Or.inl rfl))) (pg_gtName (i := 5) S.nd rfl (Or.inr rfl) (by decide)) (pss_last (ps_svIf (pt_andB (pt_cmp2 (opd_notIn rfl hu) (pN 5 rfl (Or.inr (Or.inl rfl))) (pN 3 rfl (Or.inl rfl)) rfl) (pt_one (pt_ev (pB bt_any T.b_any (calld_any rfl) (pa_avCons (pe_evLc (own := [("column", 6)]) rfl S.nd (pi_ivOf rfl (pe_index (ixd rfl hu) (pN 2 rfl (Or.inr (Or.inl rfl))) (pe_index (ixd rfl hu) (pN 3 rfl (Or.inl rfl)) (pN 4 rfl (Or.inl rfl)) (fun _ _ => rfl)) (fun _ _ => rfl))) (blkOk_by (by show blkC ["table", "tables", "outside", "found", "at", "other", "column"] (defScope s_joined_to) _ _ = true; decide +kernel)) (fun _ _ _ _ _ _ => pg_gtName (i := 6) S.nd rfl (Or.inl rfl) (by decide)) (fun _ _ _ _ _ _ => pts_bvYes) (fun _ _ _ _ _ _ => pe_cmp2 (opd_in rfl hu) (pN 6 rfl (Or.inl rfl)) (pe_index (ixd rfl hu) (pN 2 rfl (Or.inr (Or.inl rfl))) (pN 5 rfl (Or.inr (Or.inl rfl))) (fun _ _ => rfl)) rfl)) (pa_avNil))) (fun _ => rfl)))) (pss_last (ps_svExpr (pAppend 3 (Or.inl rfl) (pa_gvCons (pN 5 rfl (Or.inr (Or.inl rfl))) (pa_gvNil))))) (pss_none)))) (pss_last (ps_svAug (i := 4) S.nd rfl (Or.inl rfl) ip_add (pe_evInt))))) (pss_last (ps_svRet (pT bt_tuple T.b_tuple (calld_tuple rfl) (pa_avCons (pB bt_sorted T.b_sorted (calld_sorted rfl rfl hu) (pa_avCons (pN 3 rfl (Or.inl rfl)) (pa_avNil))) (pa_avNil))))))
/-- pieces_in -/
def b_pieces_in : SV := svSeq (svSet 3 (evCall [false,false,false] fn_closure_in [] (cvFr (evVar 0) (cvFr (evCall [false,false] fn_role_columns [] (cvFr (evVar 0) (cvFr (evVar 1) (cvNil)))) (cvFr (evVar 2) (cvNil)))))) (svSeq (svPar 4 5 (evLc (ivOf (evVar 2)) (gtName 8) (tst (evOp2 dNe (evVar 8) (evVar 1))) (evVar 8) [8]) (evLst (gvNil))) (svSeq (svSet 6 (evDc (ivOf (evVar 4)) (gtName 8) (bvYes) (evVar 8) (evLc (ivOf (evOp2 dIx (evFld [0] 1 (evVar 0)) (evVar 8))) (gtName 9) (tst (evOp2 dNotIn (evVar 9) (evVar 3))) (evVar 9) [9]) [8])) (svSeq (whileLoop (tst (evOp2 dNe (evVar 4) (evLst (gvNil)))) (svSeq (svSet 7 (evCall [false,false,false] fn_joined_to [] (cvFr (evOp2 dIx (evVar 4) (evC (.int 0))) (cvFr (evVar 4) (cvFr (evVar 6) (cvNil)))))) (svSeq (svExpr (evMth .lst 5 mAppend (gvCons (evVar 7) (gvNil)))) (svSet 4 (evLc (ivOf (evVar 4)) (gtName 8) (tst (evOp2 dNotIn (evVar 8) (evVar 7))) (evVar 8) [8])))) 1000000) (svRet (evOps dTuple (avCons (evVar 5) (avNil)))))))
def fn_pieces_in : FnV := fnOf 7 [false, false, false] b_pieces_in
abbrev s_pieces_in : Stmt := top 43
theorem S_pieces_in : FnScope ["scene", "role", "tables", "inside", "left", "found", "outside", "piece", "table", "one"] ["scene", "role", "tables"] (defScope s_pieces_in) := ⟨rfl, rfl, rfl, by decide +kernel, rfl, by decide +kernel, by decide +kernel⟩
theorem ok_pieces_in (T : Tx K mg cls) (D_closure_in : DefOk P w K mg base (Gx K cls atm) "closure_in" 2 [false, false, false] fn_closure_in []) (D_joined_to : DefOk P w K mg base (Gx K cls atm) "joined_to" 1 [false, false, false] fn_joined_to []) (D_role_columns : DefOk P w K mg base (Gx K cls atm) "role_columns" 1 [false, false] fn_role_columns []) {f : Addr} {fd : FuncData} (F : Fun K "pieces_in" "pieces_in" s_pieces_in f fd) : FnOk P w K mg base CX0 3 f fd ["scene", "role", "tables"] (spF (Gx K cls atm) [false, false, false] fn_pieces_in) :=
  have S := S_pieces_in
  ok_def F S rfl rfl fun cdv A outer s H E H0 M hr => by
    have hu := hr.units
    exact pss_seq (ps_svSet (i := 3) S.nd rfl (Or.inr rfl) (pDef D_closure_in (hr.mono (by decide)) (pa_cvFr (pN 0 rfl (Or.inr (Or.inl rfl))) (pa_cvFr (pDef D_role_columns (hr.mono (by decide)) (pa_cvFr (pN 0 rfl (Or.inr (Or.inl rfl))) (pa_cvFr (pN 1 rfl (Or.inr (Or.inl rfl))) (pa_cvNil)))) (pa_cvFr (pN 2 rfl (Or.inl rfl)) (pa_cvNil)))))) (pss_seq (ps_svPar (i := 4) (j := 5) rfl S.nd rfl rfl (by decide) rfl rfl (pe_evLc (own := [("table", 8)]) rfl S.nd (pi_ivOf rfl (pN 2 rfl (Or.inl rfl))) (blkOk_by (by show blkC ["scene", "role", "tables", "inside", "left", "found", "outside", "piece", "table", "one"] (defScope s_pieces_in) _ _ = true; decide +kernel)) (fun _ _ _ _ _ _ => pg_gtName (i := 8) S.nd rfl (Or.inl rfl) (by decide)) (fun _ _ _ _ _ _ => pts_bv (pt_cmp2 (opd_ne rfl hu) (pN 8 rfl (Or.inl rfl)) (pN 1 rfl (Or.inr (Or.inl rfl))) (nomark _))) (fun _ _ _ _ _ _ => pN 8 rfl (Or.inl rfl))) (fun _ => pe_evLst (pa_gvNil)) rfl) (pss_seq (ps_svSetDc (i := 6) (own := [("table", 8)]) rfl S.nd rfl rfl rfl (pi_ivOf rfl (pN 4 rfl (Or.inl rfl))) (blkOk_by (by show blkC ["scene", "role", "tables", "inside", "left", "found", "outside", "piece", "table", "one"] (defScope s_pieces_in) _ _ = true; decide +kernel)) (fun _ _ _ _ _ _ => pg_gtName (i := 8) S.nd rfl (Or.inl rfl) (by decide)) (fun _ _ _ _ _ _ => pts_bvYes) (fun _ _ _ _ _ _ => pN 8 rfl (Or.inl rfl)) (fun _ _ _ _ _ _ => pe_evLc (own := [("one", 9)]) rfl S.nd (pi_ivOf rfl (pe_index (ixd rfl hu) (pFld (cs := [0]) 1 T.inj (one_cls T.i_Scene T.n_Scene_own_columns) (pN 0 rfl (Or.inr (Or.inl rfl)))) (pN 8 rfl (Or.inl rfl)) (fun _ _ => rfl))) (blkOk_by (by show blkC ["scene", "role", "tables", "inside", "left", "found", "outside", "piece", "table", "one"] (relS _ (defScope s_pieces_in)) _ _ = true; decide +kernel)) (fun _ _ _ _ _ _ => pg_gtName (i := 9) S.nd rfl (Or.inl rfl) (by decide)) (fun _ _ _ _ _ _ => pts_bv (pt_cmp2 (opd_notIn rfl hu) (pN 9 rfl (Or.inl rfl)) (pN 3 rfl (Or.inr (Or.inl rfl))) rfl)) (fun _ _ _ _ _ _ => pN 9 rfl (Or.inl rfl)))) (pss_seq (ps_svWhile (n := 1000000) PassesOwn.never (pt_cmp2 (opd_ne rfl hu) (pN 4 rfl (Or.inl rfl)) (pe_evLst (pa_gvNil)) (nomark _)) (pss_seq (ps_svSet (i := 7) S.nd rfl (Or.inr rfl) (pDef D_joined_to (hr.mono (by decide)) (pa_cvFr (pe_index (ixd rfl hu) (pN 4 rfl (Or.inl rfl)) (pe_evInt) (fun _ _ => rfl)) (pa_cvFr (pN 4 rfl (Or.inl rfl)) (pa_cvFr (pN 6 rfl (Or.inl rfl)) (pa_cvNil)))))) (pss_seq (ps_svExpr (pAppend 5 (Or.inl rfl) (pa_gvCons (pN 7 rfl (Or.inr (Or.inl rfl))) (pa_gvNil)))) (pss_last (ps_svSetLc (i := 4) (own := [("table", 8)]) rfl S.nd rfl rfl rfl (pi_ivOf rfl (pN 4 rfl (Or.inl rfl))) (blkOk_by (by show blkC ["scene", "role", "tables", "inside", "left", "found", "outside", "piece", "table", "one"] (defScope s_pieces_in) _ _ = true; decide +kernel)) (fun _ _ _ _ _ _ => pg_gtName (i := 8) S.nd rfl (Or.inl rfl) (by decide)) (fun _ _ _ _ _ _ => pts_bv (pt_cmp2 (opd_notIn rfl hu) (pN 8 rfl (Or.inl rfl)) (pN 7 rfl (Or.inr (Or.inl rfl))) rfl)) (fun _ _ _ _ _ _ => pN 8 rfl (Or.inl rfl))))))) (pss_last (ps_svRet (pT bt_tuple T.b_tuple (calld_tuple rfl) (pa_avCons (pN 5 rfl (Or.inl rfl)) (pa_avNil))))))))
/-- columns_inside -/
def b_columns_inside : SV := svRet (evOps dTuple (avCons (evLc (ivOf (evVar 1)) (gtName 3) (tst (evOps dAny (avCons (evLc (ivOf (evVar 2)) (gtName 4) (bvYes) (evOp2 dIn (evVar 3) (evOp2 dIx (evFld [0] 1 (evVar 0)) (evVar 4))) [4]) (avNil)))) (evVar 3) [3]) (avNil)))
def fn_columns_inside : FnV := fnOf 2 [false, false, false] b_columns_inside
abbrev s_columns_inside : Stmt := top 44
theorem S_columns_inside : FnScope ["scene", "inside", "piece", "column", "table"] ["scene", "inside", "piece"] (defScope s_columns_inside) := ⟨rfl, rfl, rfl, by decide +kernel, rfl, by decide +kernel, by decide +kernel⟩
theorem ok_columns_inside (T : Tx K mg cls) {f : Addr} {fd : FuncData} (F : Fun K "columns_inside" "columns_inside" s_columns_inside f fd) : FnOk P w K mg base CX0 1 f fd ["scene", "inside", "piece"] (spF (Gx K cls atm) [false, false, false] fn_columns_inside) :=
  have S := S_columns_inside
  ok_def F S rfl rfl fun cdv A outer s H E H0 M hr => by
    have hu := hr.units
    exact pss_last (ps_svRet (pT bt_tuple T.b_tuple (calld_tuple rfl) (pa_avCons (pe_evLc (own := [("column", 3)]) rfl S.nd (pi_ivOf rfl (pN 1 rfl (Or.inl rfl))) (blkOk_by (by show blkC ["scene", "inside", "piece", "column", "table"] (defScope s_columns_inside) _ _ = true; decide +kernel)) (fun _ _ _ _ _ _ => pg_gtName (i := 3) S.nd rfl (Or.inr rfl) (by decide)) (fun _ _ _ _ _ _ => pts_bv (pt_ev (pB bt_any T.b_any (calld_any rfl) (pa_avCons (pe_evLc (own := [("table", 4)]) rfl S.nd (pi_ivOf rfl (pN 2 rfl (Or.inr (Or.inl rfl)))) (blkOk_by (by show blkC ["scene", "inside", "piece", "column", "table"] (relS _ (defScope s_columns_inside)) _ _ = true; decide +kernel)) (fun _ _ _ _ _ _ => pg_gtName (i := 4) S.nd rfl (Or.inl rfl) (by decide)) (fun _ _ _ _ _ _ => pts_bvYes) (fun _ _ _ _ _ _ => pe_cmp2 (opd_in rfl hu) (pN 3 rfl (Or.inr (Or.inl rfl))) (pe_index (ixd rfl hu) (pFld (cs := [0]) 1 T.inj (one_cls T.i_Scene T.n_Scene_own_columns) (pN 0 rfl (Or.inr (Or.inl rfl)))) (pN 4 rfl (Or.inl rfl)) (fun _ _ => rfl)) rfl)) (pa_avNil))) (fun _ => rfl))) (fun _ _ _ _ _ _ => pN 3 rfl (Or.inr (Or.inl rfl)))) (pa_avNil))))
/-- reached_in -/
def b_reached_in : SV := svSeq (svAsg (gtTup 2 (gtCons (gtName 3) (gtCons (gtName 4) (gtNil)))) (evCall [false,false,false] fn_closing_steps [] (cvFr (evVar 0) (cvFr (evVar 1) (cvFr (evVar 2) (cvNil)))))) (svRet (evOps dTuple (avCons (evOps dSorted (avCons (evVar 3) (avNil))) (avNil))))
def fn_reached_in : FnV := fnOf 2 [false, false, false] b_reached_in
abbrev s_reached_in : Stmt := top 39
theorem S_reached_in : FnScope ["scene", "columns", "tables", "used", "known"] ["scene", "columns", "tables"] (defScope s_reached_in) := ⟨rfl, rfl, rfl, by decide +kernel, rfl, by decide +kernel, by decide +kernel⟩
theorem ok_reached_in (T : Tx K mg cls) (D_closing_steps : DefOk P w K mg base (Gx K cls atm) "closing_steps" 1 [false, false, false] fn_closing_steps []) {f : Addr} {fd : FuncData} (F : Fun K "reached_in" "reached_in" s_reached_in f fd) : FnOk P w K mg base CX0 2 f fd ["scene", "columns", "tables"] (spF (Gx K cls atm) [false, false, false] fn_reached_in) :=
  have S := S_reached_in
  ok_def F S rfl rfl fun cdv A outer s H E H0 M hr => by
    have hu := hr.units
    exact pss_seq (ps_svAsg (ws := [3, 4]) (pDef D_closing_steps (hr.mono (by decide)) (pa_cvFr (pN 0 rfl (Or.inl rfl)) (pa_cvFr (pN 1 rfl (Or.inl rfl)) (pa_cvFr (pN 2 rfl (Or.inl rfl)) (pa_cvNil))))) (pg_gtTup rfl rfl (pgs_gtCons (pg_gtName (i := 3) S.nd rfl (Or.inl rfl) (by decide)) (pgs_gtCons (pg_gtName (i := 4) S.nd rfl (Or.inl rfl) (by decide)) (pgs_gtNil))))) (pss_last (ps_svRet (pT bt_tuple T.b_tuple (calld_tuple rfl) (pa_avCons (pB bt_sorted T.b_sorted (calld_sorted rfl rfl hu) (pa_avCons (pN 3 rfl (Or.inl rfl)) (pa_avNil))) (pa_avNil)))))
/-- view_of_piece -/
def b_view_of_piece : SV := svSeq (svSet 4 (evCall [false,false,false] fn_columns_inside [] (cvFr (evVar 0) (cvFr (evVar 1) (cvFr (evVar 3) (cvNil)))))) (svSeq (svSet 5 (evLc (ivOf (evCall [false,false,false] fn_reached_in [] (cvFr (evVar 0) (cvFr (evVar 4) (cvFr (evVar 2) (cvNil)))))) (gtName 6) (tst (evOp2 dNotIn (evVar 6) (evVar 3))) (evVar 6) [6])) (svRet (evTup (gvCons (evOps dTuple (avCons (evOps dSorted (avCons (evLst (gvStar (evVar 3) (gvStar (evVar 5) (gvNil)))) (avNil))) (avNil))) (gvCons (evVar 4) (gvNil))))))
def fn_view_of_piece : FnV := fnOf 3 [false, false, false, false] b_view_of_piece
abbrev s_view_of_piece : Stmt := top 45
theorem S_view_of_piece : FnScope ["scene", "inside", "tables", "piece", "begun", "more", "table"] ["scene", "inside", "tables", "piece"] (defScope s_view_of_piece) := ⟨rfl, rfl, rfl, by decide +kernel, rfl, by decide +kernel, by decide +kernel⟩
theorem ok_view_of_piece (T : Tx K mg cls) (D_columns_inside : DefOk P w K mg base (Gx K cls atm) "columns_inside" 1 [false, false, false] fn_columns_inside []) (D_reached_in : DefOk P w K mg base (Gx K cls atm) "reached_in" 2 [false, false, false] fn_reached_in []) {f : Addr} {fd : FuncData} (F : Fun K "view_of_piece" "view_of_piece" s_view_of_piece f fd) : FnOk P w K mg base CX0 3 f fd ["scene", "inside", "tables", "piece"] (spF (Gx K cls atm) [false, false, false, false] fn_view_of_piece) :=
  have S := S_view_of_piece
  ok_def F S rfl rfl fun cdv A outer s H E H0 M hr => by
    have hu := hr.units
    exact pss_seq (ps_svSet (i := 4) S.nd rfl (Or.inl rfl) (pDef D_columns_inside (hr.mono (by decide)) (pa_cvFr (pN 0 rfl (Or.inl rfl)) (pa_cvFr (pN 1 rfl (Or.inl rfl)) (pa_cvFr (pN 3 rfl (Or.inr (Or.inl rfl))) (pa_cvNil)))))) (pss_seq (ps_svSetLc (i := 5) (own := [("table", 6)]) rfl S.nd rfl rfl rfl (pi_ivOf rfl (pDef D_reached_in (hr.mono (by decide)) (pa_cvFr (pN 0 rfl (Or.inl rfl)) (pa_cvFr (pN 4 rfl (Or.inl rfl)) (pa_cvFr (pN 2 rfl (Or.inl rfl)) (pa_cvNil)))))) (blkOk_by (by show blkC ["scene", "inside", "tables", "piece", "begun", "more", "table"] (defScope s_view_of_piece) _ _ = true; decide +kernel)) (fun _ _ _ _ _ _ => pg_gtName (i := 6) S.nd rfl (Or.inl rfl) (by decide)) (fun _ _ _ _ _ _ => pts_bv (pt_cmp2 (opd_notIn rfl hu) (pN 6 rfl (Or.inl rfl)) (pN 3 rfl (Or.inr (Or.inl rfl))) rfl)) (fun _ _ _ _ _ _ => pN 6 rfl (Or.inl rfl))) (pss_last (ps_svRet (pe_evTup (pa_gvCons (pT bt_tuple T.b_tuple (calld_tuple rfl) (pa_avCons (pB bt_sorted T.b_sorted (calld_sorted rfl rfl hu) (pa_avCons (pe_evLst (pa_gvStar rfl (pN 3 rfl (Or.inr (Or.inl rfl))) (pa_gvStar rfl (pN 5 rfl (Or.inl rfl)) (pa_gvNil)))) (pa_avNil))) (pa_avNil))) (pa_gvCons (pN 4 rfl (Or.inl rfl)) (pa_gvNil)))))))
/-- closed_piece -/
def b_closed_piece : SV := svSeq (svExpr (evCall [false] fn_require_scene [] (cvFr (evVar 0) (cvNil)))) (svSeq (svExpr (evCall [false,false] fn_require_role [] (cvFr (evVar 0) (cvFr (evVar 1) (cvNil))))) (svSeq (svSet 4 (evCall [false,false,false] fn_given_tables [] (cvFr (evVar 0) (cvFr (evVar 1) (cvFr (evVar 3) (cvNil)))))) (svSeq (svIf (tst (evOp2 dNotIn (evVar 2) (evCall [false,false,false] fn_pieces_in [] (cvFr (evVar 0) (cvFr (evVar 1) (cvFr (evVar 4) (cvNil))))))) (svBad) (svNext)) (svSeq (svSet 5 (evCall [false,false,false] fn_closure_in [] (cvFr (evVar 0) (cvFr (evCall [false,false] fn_role_columns [] (cvFr (evVar 0) (cvFr (evVar 1) (cvNil)))) (cvFr (evVar 4) (cvNil)))))) (svRet (evOp2 dIx (evCall [false,false,false,false] fn_view_of_piece [] (cvFr (evVar 0) (cvFr (evVar 5) (cvFr (evVar 4) (cvFr (evVar 2) (cvNil)))))) (evC (.int 0))))))))
def fn_closed_piece : FnV := fnOf 2 [false, false, false, false] b_closed_piece
abbrev s_closed_piece : Stmt := top 48
theorem S_closed_piece : FnScope ["scene", "role", "piece", "tables", "given", "inside"] ["scene", "role", "piece", "tables"] (defScope s_closed_piece) := ⟨rfl, rfl, rfl, by decide +kernel, rfl, by decide +kernel, by decide +kernel⟩
theorem ok_closed_piece (T : Tx K mg cls) (D_closure_in : DefOk P w K mg base (Gx K cls atm) "closure_in" 2 [false, false, false] fn_closure_in []) (D_given_tables : DefOk P w K mg base (Gx K cls atm) "given_tables" 5 [false, false, false] fn_given_tables []) (D_pieces_in : DefOk P w K mg base (Gx K cls atm) "pieces_in" 3 [false, false, false] fn_pieces_in []) (D_require_role : DefOk P w K mg base (Gx K cls atm) "require_role" 5 [false, false] fn_require_role []) (D_require_scene : DefOk P w K mg base (Gx K cls atm) "require_scene" 1 [false] fn_require_scene []) (D_role_columns : DefOk P w K mg base (Gx K cls atm) "role_columns" 1 [false, false] fn_role_columns []) (D_view_of_piece : DefOk P w K mg base (Gx K cls atm) "view_of_piece" 3 [false, false, false, false] fn_view_of_piece []) {f : Addr} {fd : FuncData} {dvs : List V} {kws : List (Str × V)} (F : FunD K "closed_piece" "closed_piece" (defArgs s_closed_piece) (defBody s_closed_piece) (defScope s_closed_piece) dvs kws f fd) : FnOk P w K mg base CX0 6 f fd ["scene", "role", "piece", "tables"] (spF (Gx K cls atm) [false, false, false, false] fn_closed_piece) :=
  have S := S_closed_piece
  ok_defD F S rfl rfl fun cdv A outer s H E H0 M hr => by
    have hu := hr.units
    exact pss_seq (ps_svExpr (pDef D_require_scene (hr.mono (by decide)) (pa_cvFr (pN 0 rfl (Or.inl rfl)) (pa_cvNil)))) (pss_seq (ps_svExpr (pDef D_require_role (hr.mono (by decide)) (pa_cvFr (pN 0 rfl (Or.inl rfl)) (pa_cvFr (pN 1 rfl (Or.inl rfl)) (pa_cvNil))))) (pss_seq (ps_svSet (i := 4) S.nd rfl (Or.inl rfl) (pDef D_given_tables (hr.mono (by decide)) (pa_cvFr (pN 0 rfl (Or.inl rfl)) (pa_cvFr (pN 1 rfl (Or.inl rfl)) (pa_cvFr (pN 3 rfl (Or.inl rfl)) (pa_cvNil)))))) (pss_seq (ps_svIf (pt_cmp2 (opd_notIn rfl hu) (pN 2 rfl (Or.inl rfl)) (pDef D_pieces_in (hr.mono (by decide)) (pa_cvFr (pN 0 rfl (Or.inl rfl)) (pa_cvFr (pN 1 rfl (Or.inl rfl)) (pa_cvFr (pN 4 rfl (Or.inl rfl)) (pa_cvNil))))) rfl) (pss_svBad) (pss_none)) (pss_seq (ps_svSet (i := 5) S.nd rfl (Or.inl rfl) (pDef D_closure_in (hr.mono (by decide)) (pa_cvFr (pN 0 rfl (Or.inl rfl)) (pa_cvFr (pDef D_role_columns (hr.mono (by decide)) (pa_cvFr (pN 0 rfl (Or.inl rfl)) (pa_cvFr (pN 1 rfl (Or.inl rfl)) (pa_cvNil)))) (pa_cvFr (pN 4 rfl (Or.inl rfl)) (pa_cvNil)))))) (pss_last (ps_svRet (pe_index (ixd rfl hu) (pDef D_view_of_piece (hr.mono (by decide)) (pa_cvFr (pN 0 rfl (Or.inl rfl)) (pa_cvFr (pN 5 rfl (Or.inl rfl)) (pa_cvFr (pN 4 rfl (Or.inl rfl)) (pa_cvFr (pN 2 rfl (Or.inl rfl)) (pa_cvNil)))))) (pe_evInt) (fun _ _ => rfl))))))))
/-- piece_views_in -/
def b_piece_views_in : SV := svSeq (svSet 3 (evCall [false,false,false] fn_closure_in [] (cvFr (evVar 0) (cvFr (evCall [false,false] fn_role_columns [] (cvFr (evVar 0) (cvFr (evVar 1) (cvNil)))) (cvFr (evVar 2) (cvNil)))))) (svRet (evOps dTuple (avCons (evLc (ivOf (evCall [false,false,false] fn_pieces_in [] (cvFr (evVar 0) (cvFr (evVar 1) (cvFr (evVar 2) (cvNil)))))) (gtName 4) (bvYes) (evCall [false,false,false,false] fn_view_of_piece [] (cvFr (evVar 0) (cvFr (evVar 3) (cvFr (evVar 2) (cvFr (evVar 4) (cvNil)))))) [4]) (avNil))))
def fn_piece_views_in : FnV := fnOf 2 [false, false, false] b_piece_views_in
abbrev s_piece_views_in : Stmt := top 46
theorem S_piece_views_in : FnScope ["scene", "role", "tables", "inside", "piece"] ["scene", "role", "tables"] (defScope s_piece_views_in) := ⟨rfl, rfl, rfl, by decide +kernel, rfl, by decide +kernel, by decide +kernel⟩
theorem ok_piece_views_in (T : Tx K mg cls) (D_closure_in : DefOk P w K mg base (Gx K cls atm) "closure_in" 2 [false, false, false] fn_closure_in []) (D_pieces_in : DefOk P w K mg base (Gx K cls atm) "pieces_in" 3 [false, false, false] fn_pieces_in []) (D_role_columns : DefOk P w K mg base (Gx K cls atm) "role_columns" 1 [false, false] fn_role_columns []) (D_view_of_piece : DefOk P w K mg base (Gx K cls atm) "view_of_piece" 3 [false, false, false, false] fn_view_of_piece []) {f : Addr} {fd : FuncData} (F : Fun K "piece_views_in" "piece_views_in" s_piece_views_in f fd) : FnOk P w K mg base CX0 4 f fd ["scene", "role", "tables"] (spF (Gx K cls atm) [false, false, false] fn_piece_views_in) :=
  have S := S_piece_views_in
  ok_def F S rfl rfl fun cdv A outer s H E H0 M hr => by
    have hu := hr.units
    exact pss_seq (ps_svSet (i := 3) S.nd rfl (Or.inr rfl) (pDef D_closure_in (hr.mono (by decide)) (pa_cvFr (pN 0 rfl (Or.inr (Or.inl rfl))) (pa_cvFr (pDef D_role_columns (hr.mono (by decide)) (pa_cvFr (pN 0 rfl (Or.inr (Or.inl rfl))) (pa_cvFr (pN 1 rfl (Or.inl rfl)) (pa_cvNil)))) (pa_cvFr (pN 2 rfl (Or.inr (Or.inl rfl))) (pa_cvNil)))))) (pss_last (ps_svRet (pT bt_tuple T.b_tuple (calld_tuple rfl) (pa_avCons (pe_evLc (own := [("piece", 4)]) rfl S.nd (pi_ivOf rfl (pDef D_pieces_in (hr.mono (by decide)) (pa_cvFr (pN 0 rfl (Or.inr (Or.inl rfl))) (pa_cvFr (pN 1 rfl (Or.inl rfl)) (pa_cvFr (pN 2 rfl (Or.inr (Or.inl rfl))) (pa_cvNil)))))) (blkOk_by (by show blkC ["scene", "role", "tables", "inside", "piece"] (defScope s_piece_views_in) _ _ = true; decide +kernel)) (fun _ _ _ _ _ _ => pg_gtName (i := 4) S.nd rfl (Or.inl rfl) (by decide)) (fun _ _ _ _ _ _ => pts_bvYes) (fun _ _ _ _ _ _ => pDef D_view_of_piece (hr.mono (by decide)) (pa_cvFr (pN 0 rfl (Or.inr (Or.inl rfl))) (pa_cvFr (pN 3 rfl (Or.inr (Or.inl rfl))) (pa_cvFr (pN 2 rfl (Or.inr (Or.inl rfl))) (pa_cvFr (pN 4 rfl (Or.inl rfl)) (pa_cvNil))))))) (pa_avNil)))))
/-- piece_views -/
def b_piece_views : SV := svSeq (svExpr (evCall [false] fn_require_scene [] (cvFr (evVar 0) (cvNil)))) (svSeq (svExpr (evCall [false,false] fn_require_role [] (cvFr (evVar 0) (cvFr (evVar 1) (cvNil))))) (svRet (evCall [false,false,false] fn_piece_views_in [] (cvFr (evVar 0) (cvFr (evVar 1) (cvFr (evCall [false,false,false] fn_given_tables [] (cvFr (evVar 0) (cvFr (evVar 1) (cvFr (evVar 2) (cvNil))))) (cvNil)))))))
def fn_piece_views : FnV := fnOf 0 [false, false, false] b_piece_views
abbrev s_piece_views : Stmt := top 49
theorem S_piece_views : FnScope ["scene", "role", "tables"] ["scene", "role", "tables"] (defScope s_piece_views) := ⟨rfl, rfl, rfl, by decide +kernel, rfl, by decide +kernel, by decide +kernel⟩
theorem ok_piece_views (T : Tx K mg cls) (D_given_tables : DefOk P w K mg base (Gx K cls atm) "given_tables" 5 [false, false, false] fn_given_tables []) (D_piece_views_in : DefOk P w K mg base (Gx K cls atm) "piece_views_in" 4 [false, false, false] fn_piece_views_in []) (D_require_role : DefOk P w K mg base (Gx K cls atm) "require_role" 5 [false, false] fn_require_role []) (D_require_scene : DefOk P w K mg base (Gx K cls atm) "require_scene" 1 [false] fn_require_scene []) {f : Addr} {fd : FuncData} {dvs : List V} {kws : List (Str × V)} (F : FunD K "piece_views" "piece_views" (defArgs s_piece_views) (defBody s_piece_views) (defScope s_piece_views) dvs kws f fd) : FnOk P w K mg base CX0 6 f fd ["scene", "role", "tables"] (spF (Gx K cls atm) [false, false, false] fn_piece_views) :=
  have S := S_piece_views
  ok_defD F S rfl rfl fun cdv A outer s H E H0 M hr => by
    have hu := hr.units
    exact pss_seq (ps_svExpr (pDef D_require_scene (hr.mono (by decide)) (pa_cvFr (pN 0 rfl (Or.inl rfl)) (pa_cvNil)))) (pss_seq (ps_svExpr (pDef D_require_role (hr.mono (by decide)) (pa_cvFr (pN 0 rfl (Or.inl rfl)) (pa_cvFr (pN 1 rfl (Or.inl rfl)) (pa_cvNil))))) (pss_last (ps_svRet (pDef D_piece_views_in (hr.mono (by decide)) (pa_cvFr (pN 0 rfl (Or.inl rfl)) (pa_cvFr (pN 1 rfl (Or.inl rfl)) (pa_cvFr (pDef D_given_tables (hr.mono (by decide)) (pa_cvFr (pN 0 rfl (Or.inl rfl)) (pa_cvFr (pN 1 rfl (Or.inl rfl)) (pa_cvFr (pN 2 rfl (Or.inl rfl)) (pa_cvNil))))) (pa_cvNil))))))))
/-- _law_roll -/
def b__law_roll : SV := svSeq (svIf (tst (evOp2 dGt (evOp2 dIx (evVar 0) (evC (.int 0))) (evC (.int 0)))) (svSeq (svSet 2 (evOp2 dMod (evOps dInt (avCons (evOp2 dIx (evVar 0) (evC (.int 0))) (avNil))) (evVar 1))) (svSeq (svSub 0 (evC (.int 0)) (evOp2 dFdiv (evOp2 dIx (evVar 0) (evC (.int 0))) (evVar 1))) (svRet (evVar 2)))) (svNext)) (svSeq (svSub 0 (evC (.int 2)) (evOp2 dAdd (evOp2 dIx (evVar 0) (evC (.int 2))) (evC (.int 1)))) (svSeq (svSet 3 (evOp2 dMod (evOps dInt (avCons (evOp2 dAdd (evOp2 dIx (evVar 0) (evC (.int 1))) (evOp2 dMul (evC (.int 961748941)) (evOp2 dIx (evVar 0) (evC (.int 2))))) (avNil))) (evC (.int 67280421310679)))) (svSeq (svSet 4 (evOp2 dAdd (evOp2 dMul (evOp2 dMod (evOps dInt (avCons (evOp2 dMul (evVar 3) (evVar 3)) (avNil))) (evC (.int 576460752303423389))) (evVar 3)) (evOp2 dMul (evC (.int 7919)) (evOp2 dIx (evVar 0) (evC (.int 2)))))) (svRet (evOp2 dMod (evOps dInt (avCons (evOp2 dFdiv (evOp2 dMod (evOps dInt (avCons (evOp2 dAdd (evVar 4) (evOp2 dIx (evVar 0) (evC (.int 1)))) (avNil))) (evC (.int 2199023255579))) (evC (.int 128))) (avNil))) (evVar 1))))))
def fn__law_roll : FnV := fnOf 3 [true, false] b__law_roll
abbrev s__law_roll : Stmt := top 52
theorem S__law_roll : FnScope ["dice", "upto", "found", "one", "two"] ["dice", "upto"] (defScope s__law_roll) := ⟨rfl, rfl, rfl, by decide +kernel, rfl, by decide +kernel, by decide +kernel⟩
theorem ok__law_roll (T : Tx K mg cls) {f : Addr} {fd : FuncData} (F : Fun K "_law_roll" "_law_roll" s__law_roll f fd) : FnOk P w K mg base CX0 1 f fd ["dice", "upto"] (spF (Gx K cls atm) [true, false] fn__law_roll) :=
  have S := S__law_roll
  ok_def F S rfl rfl fun cdv A outer s H E H0 M hr => by
    have hu := hr.units
    exact pss_seq (ps_svIf (pt_cmp2 (opd_gt) (pe_index (ixd rfl hu) (pN 0 rfl (Or.inl rfl)) (pe_evInt) (fun _ _ => rfl)) (pe_evInt) (nomark _)) (pss_seq (ps_svSet (i := 2) S.nd rfl (Or.inl rfl) (pe_bin (opd_mod) (pT bt_int T.b_int (calld_int) (pa_avCons (pe_index (ixd rfl hu) (pN 0 rfl (Or.inl rfl)) (pe_evInt) (fun _ _ => rfl)) (pa_avNil))) (pN 1 rfl (Or.inl rfl)))) (pss_seq (ps_svSub (i := 0) hu rfl (Or.inl rfl) (by decide +kernel) (by decide +kernel) (pe_evInt) (pe_bin (opd_fdiv) (pe_index (ixd rfl hu) (pN 0 rfl (Or.inl rfl)) (pe_evInt) (fun _ _ => rfl)) (pN 1 rfl (Or.inl rfl)))) (pss_last (ps_svRet (pN 2 rfl (Or.inl rfl)))))) (pss_none)) (pss_seq (ps_svSub (i := 0) hu rfl (Or.inl rfl) (by decide +kernel) (by decide +kernel) (pe_evInt) (pe_bin (opd_add rfl) (pe_index (ixd rfl hu) (pN 0 rfl (Or.inl rfl)) (pe_evInt) (fun _ _ => rfl)) (pe_evInt))) (pss_seq (ps_svSet (i := 3) S.nd rfl (Or.inl rfl) (pe_bin (opd_mod) (pT bt_int T.b_int (calld_int) (pa_avCons (pe_bin (opd_add rfl) (pe_index (ixd rfl hu) (pN 0 rfl (Or.inl rfl)) (pe_evInt) (fun _ _ => rfl)) (pe_bin (opd_mul) (pe_evInt) (pe_index (ixd rfl hu) (pN 0 rfl (Or.inl rfl)) (pe_evInt) (fun _ _ => rfl)))) (pa_avNil))) (pe_evInt))) (pss_seq (ps_svSet (i := 4) S.nd rfl (Or.inl rfl) (pe_bin (opd_add rfl) (pe_bin (opd_mul) (pe_bin (opd_mod) (pT bt_int T.b_int (calld_int) (pa_avCons (pe_bin (opd_mul) (pN 3 rfl (Or.inl rfl)) (pN 3 rfl (Or.inl rfl))) (pa_avNil))) (pe_evInt)) (pN 3 rfl (Or.inl rfl))) (pe_bin (opd_mul) (pe_evInt) (pe_index (ixd rfl hu) (pN 0 rfl (Or.inl rfl)) (pe_evInt) (fun _ _ => rfl))))) (pss_last (ps_svRet (pe_bin (opd_mod) (pT bt_int T.b_int (calld_int) (pa_avCons (pe_bin (opd_fdiv) (pe_bin (opd_mod) (pT bt_int T.b_int (calld_int) (pa_avCons (pe_bin (opd_add rfl) (pN 4 rfl (Or.inl rfl)) (pe_index (ixd rfl hu) (pN 0 rfl (Or.inl rfl)) (pe_evInt) (fun _ _ => rfl))) (pa_avNil))) (pe_evInt)) (pe_evInt)) (pa_avNil))) (pN 1 rfl (Or.inl rfl))))))))
/-- _law_mixed -/
def b__law_mixed : SV := svSeq (svPar 2 3 (evOps dList (avCons (evVar 1) (avNil))) (evLst (gvNil))) (svSeq (whileLoop (tst (evOp2 dNe (evVar 2) (evLst (gvNil)))) (svExpr (evMth .lst 3 mAppend (gvCons (evMth .lst 2 mPop (gvCons (evCall [true,false] fn__law_roll [] (cvLn 0 (cvFr (evOps dLen (avCons (evVar 2) (avNil))) (cvNil)))) (gvNil))) (gvNil)))) 1000000) (svRet (evVar 3)))
def fn__law_mixed : FnV := fnOf 2 [true, false] b__law_mixed
abbrev s__law_mixed : Stmt := top 54
theorem S__law_mixed : FnScope ["dice", "items", "left", "found"] ["dice", "items"] (defScope s__law_mixed) := ⟨rfl, rfl, rfl, by decide +kernel, rfl, by decide +kernel, by decide +kernel⟩
theorem ok__law_mixed (T : Tx K mg cls) (D__law_roll : DefOk P w K mg base (Gx K cls atm) "_law_roll" 1 [true, false] fn__law_roll []) {f : Addr} {fd : FuncData} (F : Fun K "_law_mixed" "_law_mixed" s__law_mixed f fd) : FnOk P w K mg base CX0 2 f fd ["dice", "items"] (spF (Gx K cls atm) [true, false] fn__law_mixed) :=
  have S := S__law_mixed
  ok_def F S rfl rfl fun cdv A outer s H E H0 M hr => by
    have hu := hr.units
    exact pss_seq (ps_svPar (i := 2) (j := 3) rfl S.nd rfl rfl (by decide) rfl rfl (pT bt_list T.b_list (calld_list rfl rfl) (pa_avCons (pN 1 rfl (Or.inl rfl)) (pa_avNil))) (fun _ => pe_evLst (pa_gvNil)) rfl) (pss_seq (ps_svWhile (n := 1000000) PassesOwn.never (pt_cmp2 (opd_ne rfl hu) (pN 2 rfl (Or.inl rfl)) (pe_evLst (pa_gvNil)) (nomark _)) (pss_last (ps_svExpr (pAppend 3 (Or.inl rfl) (pa_gvCons (pPop 2 (Or.inl rfl) (pa_gvCons (pDef D__law_roll (hr.mono (by decide)) (pa_cvLn (i := 0) rfl (Or.inl rfl) (by decide +kernel) (by decide +kernel) (pa_cvFr (pB bt_len T.b_len (calld_len rfl) (pa_avCons (pN 2 rfl (Or.inl rfl)) (pa_avNil))) (pa_cvNil)))) (pa_gvNil))) (pa_gvNil)))))) (pss_last (ps_svRet (pN 3 rfl (Or.inl rfl)))))
/-- _law_words -/
def b__law_words : SV := svSeq (svSet 2 (evLst (gvCons (evC (.str "a")) (gvCons (evC (.str "aa")) (gvCons (evC (.str "ab")) (gvCons (evC (.str "b")) (gvCons (evC (.str "ba")) (gvCons (evC (.str "changing")) (gvCons (evC (.str "door")) (gvCons (evC (.str "key")) (gvCons (evC (.str "r")) (gvCons (evC (.str "s")) (gvCons (evC (.str "self")) (gvCons (evC (.str "who")) (gvCons (evC (.str "x")) (gvCons (evC (.str "zzzzzzzz")) (gvNil))))))))))))))))) (svRet (evSl (evCall [true,false] fn__law_mixed [] (cvLn 0 (cvFr (evVar 2) (cvNil)))) (pvNo) (pvOf (evVar 1))))
def fn__law_words : FnV := fnOf 1 [true, false] b__law_words
abbrev s__law_words : Stmt := top 56
theorem S__law_words : FnScope ["dice", "upto", "some"] ["dice", "upto"] (defScope s__law_words) := ⟨rfl, rfl, rfl, by decide +kernel, rfl, by decide +kernel, by decide +kernel⟩
theorem ok__law_words (T : Tx K mg cls) (D__law_mixed : DefOk P w K mg base (Gx K cls atm) "_law_mixed" 2 [true, false] fn__law_mixed []) {f : Addr} {fd : FuncData} (F : Fun K "_law_words" "_law_words" s__law_words f fd) : FnOk P w K mg base CX0 3 f fd ["dice", "upto"] (spF (Gx K cls atm) [true, false] fn__law_words) :=
  have S := S__law_words
  ok_def F S rfl rfl fun cdv A outer s H E H0 M hr => by
    have hu := hr.units
    exact pss_seq (ps_svSet (i := 2) S.nd rfl (Or.inl rfl) (pe_evLst (pa_gvCons (pe_evStr) (pa_gvCons (pe_evStr) (pa_gvCons (pe_evStr) (pa_gvCons (pe_evStr) (pa_gvCons (pe_evStr) (pa_gvCons (pe_evStr) (pa_gvCons (pe_evStr) (pa_gvCons (pe_evStr) (pa_gvCons (pe_evStr) (pa_gvCons (pe_evStr) (pa_gvCons (pe_evStr) (pa_gvCons (pe_evStr) (pa_gvCons (pe_evStr) (pa_gvCons (pe_evStr) (pa_gvNil))))))))))))))))) (pss_last (ps_svRet (pe_evSl rfl (pDef D__law_mixed (hr.mono (by decide)) (pa_cvLn (i := 0) rfl (Or.inl rfl) (by decide +kernel) (by decide +kernel) (pa_cvFr (pN 2 rfl (Or.inl rfl)) (pa_cvNil)))) (po_pvNo) (po_pvOf (pN 1 rfl (Or.inl rfl))))))
/-- _law_some -/
def b__law_some : SV := svSeq (svPar 4 5 (evOps dMin (avCons (evVar 2) (avCons (evOps dLen (avCons (evVar 1) (avNil))) (avNil)))) (evOps dMin (avCons (evVar 3) (avCons (evOps dLen (avCons (evVar 1) (avNil))) (avNil))))) (svRet (evSl (evCall [true,false] fn__law_mixed [] (cvLn 0 (cvFr (evVar 1) (cvNil)))) (pvNo) (pvOf (evOp2 dAdd (evVar 4) (evCall [true,false] fn__law_roll [] (cvLn 0 (cvFr (evOp2 dAdd (evOp2 dSub (evVar 5) (evVar 4)) (evC (.int 1))) (cvNil))))))))
def fn__law_some : FnV := fnOf 2 [true, false, false, false] b__law_some
abbrev s__law_some : Stmt := top 55
theorem S__law_some : FnScope ["dice", "items", "least", "most", "low", "high"] ["dice", "items", "least", "most"] (defScope s__law_some) := ⟨rfl, rfl, rfl, by decide +kernel, rfl, by decide +kernel, by decide +kernel⟩
theorem ok__law_some (T : Tx K mg cls) (D__law_mixed : DefOk P w K mg base (Gx K cls atm) "_law_mixed" 2 [true, false] fn__law_mixed []) (D__law_roll : DefOk P w K mg base (Gx K cls atm) "_law_roll" 1 [true, false] fn__law_roll []) {f : Addr} {fd : FuncData} (F : Fun K "_law_some" "_law_some" s__law_some f fd) : FnOk P w K mg base CX0 3 f fd ["dice", "items", "least", "most"] (spF (Gx K cls atm) [true, false, false, false] fn__law_some) :=
  have S := S__law_some
  ok_def F S rfl rfl fun cdv A outer s H E H0 M hr => by
    have hu := hr.units
    exact pss_seq (ps_svPar (i := 4) (j := 5) rfl S.nd rfl rfl (by decide) rfl rfl (pB bt_min T.b_min (calld_min rfl) (pa_avCons (pN 2 rfl (Or.inl rfl)) (pa_avCons (pB bt_len T.b_len (calld_len rfl) (pa_avCons (pN 1 rfl (Or.inl rfl)) (pa_avNil))) (pa_avNil)))) (fun _ => pB bt_min T.b_min (calld_min rfl) (pa_avCons (pN 3 rfl (Or.inl rfl)) (pa_avCons (pB bt_len T.b_len (calld_len rfl) (pa_avCons (pN 1 rfl (Or.inl rfl)) (pa_avNil))) (pa_avNil)))) rfl) (pss_last (ps_svRet (pe_evSl rfl (pDef D__law_mixed (hr.mono (by decide)) (pa_cvLn (i := 0) rfl (Or.inl rfl) (by decide +kernel) (by decide +kernel) (pa_cvFr (pN 1 rfl (Or.inl rfl)) (pa_cvNil)))) (po_pvNo) (po_pvOf (pe_bin (opd_add rfl) (pN 4 rfl (Or.inl rfl)) (pDef D__law_roll (hr.mono (by decide)) (pa_cvLn (i := 0) rfl (Or.inl rfl) (by decide +kernel) (by decide +kernel) (pa_cvFr (pe_bin (opd_add rfl) (pe_bin (opd_sub) (pN 5 rfl (Or.inl rfl)) (pN 4 rfl (Or.inl rfl))) (pe_evInt)) (pa_cvNil)))))))))
/-- _law_kind -/
def b__law_kind : SV := svSeq (svIf (tst (evOp2 dGt (evCall [true,false] fn__law_roll [] (cvLn 0 (cvFr (evVar 2) (cvNil)))) (evC (.int 0)))) (svRet (evC (.str "changing"))) (svNext)) (svRet (evIf (tst (evOp2 dEq (evCall [true,false] fn__law_roll [] (cvLn 0 (cvFr (evC (.int 2)) (cvNil)))) (evC (.int 0)))) (evC .non) (evOps dTuple (avCons (evOps dSorted (avCons (evCall [true,false,false,false] fn__law_some [] (cvLn 0 (cvFr (evVar 1) (cvFr (evC (.int 0)) (cvFr (evC (.int 3)) (cvNil)))))) (avNil))) (avNil)))))
def fn__law_kind : FnV := fnOf 0 [true, false, false] b__law_kind
abbrev s__law_kind : Stmt := top 57
theorem S__law_kind : FnScope ["dice", "columns", "still"] ["dice", "columns", "still"] (defScope s__law_kind) := ⟨rfl, rfl, rfl, by decide +kernel, rfl, by decide +kernel, by decide +kernel⟩
theorem ok__law_kind (T : Tx K mg cls) (D__law_roll : DefOk P w K mg base (Gx K cls atm) "_law_roll" 1 [true, false] fn__law_roll []) (D__law_some : DefOk P w K mg base (Gx K cls atm) "_law_some" 3 [true, false, false, false] fn__law_some []) {f : Addr} {fd : FuncData} (F : Fun K "_law_kind" "_law_kind" s__law_kind f fd) : FnOk P w K mg base CX0 4 f fd ["dice", "columns", "still"] (spF (Gx K cls atm) [true, false, false] fn__law_kind) :=
  have S := S__law_kind
  ok_def F S rfl rfl fun cdv A outer s H E H0 M hr => by
    have hu := hr.units
    exact pss_seq (ps_svIf (pt_cmp2 (opd_gt) (pDef D__law_roll (hr.mono (by decide)) (pa_cvLn (i := 0) rfl (Or.inl rfl) (by decide +kernel) (by decide +kernel) (pa_cvFr (pN 2 rfl (Or.inl rfl)) (pa_cvNil)))) (pe_evInt) (nomark _)) (pss_last (ps_svRet (pe_evStr))) (pss_none)) (pss_last (ps_svRet (pe_ifB (pt_cmp2 (opd_eq rfl hu) (pDef D__law_roll (hr.mono (by decide)) (pa_cvLn (i := 0) rfl (Or.inl rfl) (by decide +kernel) (by decide +kernel) (pa_cvFr (pe_evInt) (pa_cvNil)))) (pe_evInt) (nomark _)) (pe_evNon) (pT bt_tuple T.b_tuple (calld_tuple rfl) (pa_avCons (pB bt_sorted T.b_sorted (calld_sorted rfl rfl hu) (pa_avCons (pDef D__law_some (hr.mono (by decide)) (pa_cvLn (i := 0) rfl (Or.inl rfl) (by decide +kernel) (by decide +kernel) (pa_cvFr (pN 1 rfl (Or.inl rfl)) (pa_cvFr (pe_evInt) (pa_cvFr (pe_evInt) (pa_cvNil)))))) (pa_avNil))) (pa_avNil))))))
/-- _law_scene -/
def b__law_scene : SV := svSeq (svSet 4 (evOps dSorted (avCons (evCall [true,false] fn__law_words [] (cvLn 0 (cvFr (evOp2 dAdd (evC (.int 1)) (evCall [true,false] fn__law_roll [] (cvLn 0 (cvFr (evVar 1) (cvNil))))) (cvNil)))) (avNil)))) (svSeq (svSet 5 (evCall [true,false] fn__law_words [] (cvLn 0 (cvFr (evOp2 dAdd (evC (.int 1)) (evCall [true,false] fn__law_roll [] (cvLn 0 (cvFr (evVar 2) (cvNil))))) (cvNil))))) (svSeq (svPar 6 7 (evCall [true,false] fn__law_roll [] (cvLn 0 (cvFr (evC (.int 4)) (cvNil)))) (evNewD)) (svSeq (svFor (ivEnum (evCall [true,false] fn__law_mixed [] (cvLn 0 (cvFr (evVar 4) (cvNil))))) (gtTup 2 (gtCons (gtName 8) (gtCons (gtName 9) (gtNil)))) (svSeq (svSet 10 (evCall [true,false,false,false] fn__law_some [] (cvLn 0 (cvFr (evVar 5) (cvFr (evC (.int 0)) (cvFr (evC (.int 3)) (cvNil))))))) (svSeq (svIf (tst (evOp2 dEq (evVar 6) (evC (.int 1)))) (svSet 10 (evOp2 dAdd (evSl (evVar 5) (pvOf (evVar 8)) (pvOf (evOp2 dAdd (evVar 8) (evC (.int 2))))) (evSl (evVar 10) (pvNo) (pvOf (evCall [true,false] fn__law_roll [] (cvLn 0 (cvFr (evC (.int 2)) (cvNil)))))))) (svNext)) (svSeq (svIf (tst (evOp2 dEq (evVar 6) (evC (.int 2)))) (svSet 10 (evOp2 dAdd (evSl (evVar 5) (pvNo) (pvOf (evC (.int 1)))) (evSl (evVar 10) (pvNo) (pvOf (evC (.int 2)))))) (svNext)) (svSeq (svSet 11 (evOps dTuple (avCons (evSortSet (evVar 10)) (avNil)))) (svSub 7 (evVar 9) (evTup (gvCons (evVar 11) (gvCons (evCall [true,false,false] fn__law_kind [] (cvLn 0 (cvFr (evVar 11) (cvFr (evVar 3) (cvNil))))) (gvNil)))))))))) (svRet (evOps dDict (avCons (evLc (ivOf (evVar 4)) (gtName 9) (bvYes) (evTup (gvCons (evVar 9) (gvCons (evOp2 dIx (evVar 7) (evVar 9)) (gvNil)))) [9]) (avNil)))))))
def fn__law_scene : FnV := fnOf 8 [true, false, false, false] b__law_scene
abbrev s__law_scene : Stmt := top 58
theorem S__law_scene : FnScope ["dice", "most_tables", "most_columns", "still", "names", "pool", "way", "found", "at", "name", "some", "here"] ["dice", "most_tables", "most_columns", "still"] (defScope s__law_scene) := ⟨rfl, rfl, rfl, by decide +kernel, rfl, by decide +kernel, by decide +kernel⟩
theorem ok__law_scene (T : Tx K mg cls) (D__law_kind : DefOk P w K mg base (Gx K cls atm) "_law_kind" 4 [true, false, false] fn__law_kind []) (D__law_mixed : DefOk P w K mg base (Gx K cls atm) "_law_mixed" 2 [true, false] fn__law_mixed []) (D__law_roll : DefOk P w K mg base (Gx K cls atm) "_law_roll" 1 [true, false] fn__law_roll []) (D__law_some : DefOk P w K mg base (Gx K cls atm) "_law_some" 3 [true, false, false, false] fn__law_some []) (D__law_words : DefOk P w K mg base (Gx K cls atm) "_law_words" 3 [true, false] fn__law_words []) {f : Addr} {fd : FuncData} (F : Fun K "_law_scene" "_law_scene" s__law_scene f fd) : FnOk P w K mg base CX0 5 f fd ["dice", "most_tables", "most_columns", "still"] (spF (Gx K cls atm) [true, false, false, false] fn__law_scene) :=
  have S := S__law_scene
  ok_def F S rfl rfl fun cdv A outer s H E H0 M hr => by
    have hu := hr.units
    exact pss_seq (ps_svSet (i := 4) S.nd rfl (Or.inl rfl) (pB bt_sorted T.b_sorted (calld_sorted rfl rfl hu) (pa_avCons (pDef D__law_words (hr.mono (by decide)) (pa_cvLn (i := 0) rfl (Or.inl rfl) (by decide +kernel) (by decide +kernel) (pa_cvFr (pe_bin (opd_add rfl) (pe_evInt) (pDef D__law_roll (hr.mono (by decide)) (pa_cvLn (i := 0) rfl (Or.inl rfl) (by decide +kernel) (by decide +kernel) (pa_cvFr (pN 1 rfl (Or.inl rfl)) (pa_cvNil))))) (pa_cvNil)))) (pa_avNil)))) (pss_seq (ps_svSet (i := 5) S.nd rfl (Or.inl rfl) (pDef D__law_words (hr.mono (by decide)) (pa_cvLn (i := 0) rfl (Or.inl rfl) (by decide +kernel) (by decide +kernel) (pa_cvFr (pe_bin (opd_add rfl) (pe_evInt) (pDef D__law_roll (hr.mono (by decide)) (pa_cvLn (i := 0) rfl (Or.inl rfl) (by decide +kernel) (by decide +kernel) (pa_cvFr (pN 2 rfl (Or.inl rfl)) (pa_cvNil))))) (pa_cvNil))))) (pss_seq (ps_svParT (i := 6) (j := 7) rfl rfl S.nd rfl rfl (Or.inl rfl) (Or.inr rfl) (pDef D__law_roll (hr.mono (by decide)) (pa_cvLn (i := 0) rfl (Or.inl rfl) (by decide +kernel) (by decide +kernel) (pa_cvFr (pe_evInt) (pa_cvNil)))) (fun _ => pe_evNewD)) (pss_seq (ps_svFor (ws := [8, 9]) PassesOwn.never rfl (pi_ivEnum rfl T.b_enumerate (pDef D__law_mixed (hr.mono (by decide)) (pa_cvLn (i := 0) rfl (Or.inl rfl) (by decide +kernel) (by decide +kernel) (pa_cvFr (pN 4 rfl (Or.inl rfl)) (pa_cvNil))))) (pg_gtTup rfl rfl (pgs_gtCons (pg_gtName (i := 8) S.nd rfl (Or.inl rfl) (by decide)) (pgs_gtCons (pg_gtName (i := 9) S.nd rfl (Or.inl rfl) (by decide)) (pgs_gtNil)))) (pss_seq (ps_svSet (i := 10) S.nd rfl (Or.inl rfl) (pDef D__law_some (hr.mono (by decide)) (pa_cvLn (i := 0) rfl (Or.inl rfl) (by decide +kernel) (by decide +kernel) (pa_cvFr (pN 5 rfl (Or.inl rfl)) (pa_cvFr (pe_evInt) (pa_cvFr (pe_evInt) (pa_cvNil))))))) (pss_seq (ps_svIf (pt_cmp2 (opd_eq rfl hu) (pN 6 rfl (Or.inl rfl)) (pe_evInt) (nomark _)) (pss_last (ps_svSet (i := 10) S.nd rfl (Or.inl rfl) (pe_bin (opd_add rfl) (pe_evSl rfl (pN 5 rfl (Or.inl rfl)) (po_pvOf (pN 8 rfl (Or.inl rfl))) (po_pvOf (pe_bin (opd_add rfl) (pN 8 rfl (Or.inl rfl)) (pe_evInt)))) (pe_evSl rfl (pN 10 rfl (Or.inl rfl)) (po_pvNo) (po_pvOf (pDef D__law_roll (hr.mono (by decide)) (pa_cvLn (i := 0) rfl (Or.inl rfl) (by decide +kernel) (by decide +kernel) (pa_cvFr (pe_evInt) (pa_cvNil))))))))) (pss_none)) (pss_seq (ps_svIf (pt_cmp2 (opd_eq rfl hu) (pN 6 rfl (Or.inl rfl)) (pe_evInt) (nomark _)) (pss_last (ps_svSet (i := 10) S.nd rfl (Or.inl rfl) (pe_bin (opd_add rfl) (pe_evSl rfl (pN 5 rfl (Or.inl rfl)) (po_pvNo) (po_pvOf (pe_evInt))) (pe_evSl rfl (pN 10 rfl (Or.inl rfl)) (po_pvNo) (po_pvOf (pe_evInt)))))) (pss_none)) (pss_seq (ps_svSet (i := 11) S.nd rfl (Or.inl rfl) (pT bt_tuple T.b_tuple (calld_tuple rfl) (pa_avCons (pe_evSortSet rfl rfl hu rfl T.b_sorted rfl T.b_set (pN 10 rfl (Or.inl rfl))) (pa_avNil)))) (pss_last (ps_svSub (i := 7) hu rfl (Or.inr (Or.inl rfl)) (by decide +kernel) (by decide +kernel) (pN 9 rfl (Or.inl rfl)) (pe_evTup (pa_gvCons (pN 11 rfl (Or.inl rfl)) (pa_gvCons (pDef D__law_kind (hr.mono (by decide)) (pa_cvLn (i := 0) rfl (Or.inl rfl) (by decide +kernel) (by decide +kernel) (pa_cvFr (pN 11 rfl (Or.inl rfl)) (pa_cvFr (pN 3 rfl (Or.inl rfl)) (pa_cvNil))))) (pa_gvNil))))))))))) (pss_last (ps_svRet (pT bt_dict T.b_dict (calld_dict rfl rfl) (pa_avCons (pe_evLc (own := [("name", 9)]) rfl S.nd (pi_ivOf rfl (pN 4 rfl (Or.inl rfl))) (blkOk_by (by show blkC ["dice", "most_tables", "most_columns", "still", "names", "pool", "way", "found", "at", "name", "some", "here"] (defScope s__law_scene) _ _ = true; decide +kernel)) (fun _ _ _ _ _ _ => pg_gtName (i := 9) S.nd rfl (Or.inl rfl) (by decide)) (fun _ _ _ _ _ _ => pts_bvYes) (fun _ _ _ _ _ _ => pe_evTup (pa_gvCons (pN 9 rfl (Or.inl rfl)) (pa_gvCons (pe_index (ixd rfl hu) (pN 7 rfl (Or.inr (Or.inl rfl))) (pN 9 rfl (Or.inl rfl)) (fun _ _ => rfl)) (pa_gvNil))))) (pa_avNil))))))))
/-- _law_closure -/
def b__law_closure : SV := svSeq (svSet 3 (evOps dList (avCons (evVar 1) (avNil)))) (svSeq (svFor (ivRange1 (evOp2 dAdd (evOps dLen (avCons (evVar 2) (avNil))) (evC (.int 1)))) (gtName 4) (svFor (ivOf (evVar 2)) (gtName 5) (svSeq (svAsg (gtTup 2 (gtCons (gtName 6) (gtCons (gtName 7) (gtNil)))) (evOp2 dIx (evVar 0) (evVar 5))) (svIf (bvAnd (tst (evIsi (isB "tuple") (evVar 7))) (tst (evOp2 dEq (evLc (ivOf (evVar 7)) (gtName 8) (tst (evOp2 dNotIn (evVar 8) (evVar 3))) (evVar 8) [8]) (evLst (gvNil))))) (svSet 3 (evOp2 dAdd (evVar 3) (evLc (ivOf (evVar 6)) (gtName 8) (tst (evOp2 dNotIn (evVar 8) (evVar 3))) (evVar 8) [8]))) (svNext))))) (svRet (evVar 3)))
def fn__law_closure : FnV := fnOf 6 [false, false, false] b__law_closure
abbrev s__law_closure : Stmt := top 65
theorem S__law_closure : FnScope ["scene", "columns", "names", "found", "turn", "name", "here", "kind", "column"] ["scene", "columns", "names"] (defScope s__law_closure) := ⟨rfl, rfl, rfl, by decide +kernel, rfl, by decide +kernel, by decide +kernel⟩
theorem ok__law_closure (T : Tx K mg cls) {f : Addr} {fd : FuncData} (F : Fun K "_law_closure" "_law_closure" s__law_closure f fd) : FnOk P w K mg base CX0 1 f fd ["scene", "columns", "names"] (spF (Gx K cls atm) [false, false, false] fn__law_closure) :=
  have S := S__law_closure
  ok_def F S rfl rfl fun cdv A outer s H E H0 M hr => by
    have hu := hr.units
    exact pss_seq (ps_svSet (i := 3) S.nd rfl (Or.inr rfl) (pT bt_list T.b_list (calld_list rfl rfl) (pa_avCons (pN 1 rfl (Or.inl rfl)) (pa_avNil)))) (pss_seq (ps_svFor (ws := [4]) PassesOwn.never rfl (pi_ivRange1 rfl T.b_range (pe_bin (opd_add rfl) (pB bt_len T.b_len (calld_len rfl) (pa_avCons (pN 2 rfl (Or.inl rfl)) (pa_avNil))) (pe_evInt))) (pg_gtName (i := 4) S.nd rfl (Or.inl rfl) (by decide)) (pss_last (ps_svFor (ws := [5]) PassesOwn.never rfl (pi_ivOf rfl (pN 2 rfl (Or.inl rfl))) (pg_gtName (i := 5) S.nd rfl (Or.inl rfl) (by decide)) (pss_seq (ps_svAsg (ws := [6, 7]) (pe_index (ixd rfl hu) (pN 0 rfl (Or.inl rfl)) (pN 5 rfl (Or.inl rfl)) (fun _ _ => rfl)) (pg_gtTup rfl rfl (pgs_gtCons (pg_gtName (i := 6) S.nd rfl (Or.inl rfl) (by decide)) (pgs_gtCons (pg_gtName (i := 7) S.nd rfl (Or.inl rfl) (by decide)) (pgs_gtNil))))) (pss_last (ps_svIf (pt_andB (pt_ev (pIsB (T := "tuple") rfl T.b_isinstance T.b_tuple bt_tuple (pN 7 rfl (Or.inl rfl))) (fun _ => rfl)) (pt_one (pt_cmp2 (opd_eq rfl hu) (pe_evLc (own := [("column", 8)]) rfl S.nd (pi_ivOf rfl (pN 7 rfl (Or.inl rfl))) (blkOk_by (by show blkC ["scene", "columns", "names", "found", "turn", "name", "here", "kind", "column"] (defScope s__law_closure) _ _ = true; decide +kernel)) (fun _ _ _ _ _ _ => pg_gtName (i := 8) S.nd rfl (Or.inl rfl) (by decide)) (fun _ _ _ _ _ _ => pts_bv (pt_cmp2 (opd_notIn rfl hu) (pN 8 rfl (Or.inl rfl)) (pN 3 rfl (Or.inr (Or.inl rfl))) rfl)) (fun _ _ _ _ _ _ => pN 8 rfl (Or.inl rfl))) (pe_evLst (pa_gvNil)) (nomark _)))) (pss_last (ps_svSet (i := 3) S.nd rfl (Or.inr rfl) (pe_bin (opd_add rfl) (pN 3 rfl (Or.inr (Or.inl rfl))) (pe_evLc (own := [("column", 8)]) rfl S.nd (pi_ivOf rfl (pN 6 rfl (Or.inl rfl))) (blkOk_by (by show blkC ["scene", "columns", "names", "found", "turn", "name", "here", "kind", "column"] (defScope s__law_closure) _ _ = true; decide +kernel)) (fun _ _ _ _ _ _ => pg_gtName (i := 8) S.nd rfl (Or.inl rfl) (by decide)) (fun _ _ _ _ _ _ => pts_bv (pt_cmp2 (opd_notIn rfl hu) (pN 8 rfl (Or.inl rfl)) (pN 3 rfl (Or.inr (Or.inl rfl))) rfl)) (fun _ _ _ _ _ _ => pN 8 rfl (Or.inl rfl)))))) (pss_none))))))) (pss_last (ps_svRet (pN 3 rfl (Or.inr (Or.inl rfl))))))
/-- _law_role_columns -/
def b__law_role_columns : SV := svRet (evIf (tst (evIsi (isB "str") (evVar 1))) (evOp2 dIx (evOp2 dIx (evVar 0) (evVar 1)) (evC (.int 0))) (evVar 1))
def fn__law_role_columns : FnV := fnOf 0 [false, false] b__law_role_columns
abbrev s__law_role_columns : Stmt := top 64
theorem S__law_role_columns : FnScope ["scene", "role"] ["scene", "role"] (defScope s__law_role_columns) := ⟨rfl, rfl, rfl, by decide +kernel, rfl, by decide +kernel, by decide +kernel⟩
theorem ok__law_role_columns (T : Tx K mg cls) {f : Addr} {fd : FuncData} (F : Fun K "_law_role_columns" "_law_role_columns" s__law_role_columns f fd) : FnOk P w K mg base CX0 1 f fd ["scene", "role"] (spF (Gx K cls atm) [false, false] fn__law_role_columns) :=
  have S := S__law_role_columns
  ok_def F S rfl rfl fun cdv A outer s H E H0 M hr => by
    have hu := hr.units
    exact pss_last (ps_svRet (pe_ifB (pt_ev (pIsB (T := "str") rfl T.b_isinstance T.b_str bt_str (pN 1 rfl (Or.inl rfl))) (fun _ => rfl)) (pe_index (ixd rfl hu) (pe_index (ixd rfl hu) (pN 0 rfl (Or.inl rfl)) (pN 1 rfl (Or.inl rfl)) (fun _ _ => rfl)) (pe_evInt) (fun _ _ => rfl)) (pN 1 rfl (Or.inl rfl))))
/-- _law_groups -/
def b__law_groups : SV := svSeq (svSet 3 (evCall [false,false,false] fn__law_closure [] (cvFr (evVar 0) (cvFr (evCall [false,false] fn__law_role_columns [] (cvFr (evVar 0) (cvFr (evVar 1) (cvNil)))) (cvFr (evVar 2) (cvNil)))))) (svSeq (svSet 4 (evLc (ivOf (evVar 2)) (gtName 9) (tst (evOp2 dNe (evVar 9) (evVar 1))) (evTup (gvCons (evLst (gvCons (evVar 9) (gvNil))) (gvCons (evLc (ivOf (evOp2 dIx (evOp2 dIx (evVar 0) (evVar 9)) (evC (.int 0)))) (gtName 10) (tst (evOp2 dNotIn (evVar 10) (evVar 3))) (evVar 10) [10]) (gvNil)))) [9])) (svSeq (svSet 5 (evOp1 dNeg (evC (.int 1)))) (svSeq (whileLoop (tst (evOp2 dNe (evVar 5) (evOps dLen (avCons (evVar 4) (avNil))))) (svSeq (svSet 5 (evOps dLen (avCons (evVar 4) (avNil)))) (svFor (ivRange1 (evVar 5)) (gtName 6) (svSeq (svSet 7 (evLc (ivRange1 (evVar 6)) (gtName 11) (tst (evOp2 dNe (evLc (ivOf (evOp2 dIx (evOp2 dIx (evVar 4) (evVar 11)) (evC (.int 1)))) (gtName 10) (tst (evOp2 dIn (evVar 10) (evOp2 dIx (evOp2 dIx (evVar 4) (evVar 6)) (evC (.int 1))))) (evVar 10) [10]) (evLst (gvNil)))) (evVar 11) [11])) (svIf (tst (evOp2 dNe (evVar 7) (evLst (gvNil)))) (svSeq (svSet 8 (evTup (gvCons (evOp2 dAdd (evOp2 dIx (evOp2 dIx (evVar 4) (evOp2 dIx (evVar 7) (evC (.int 0)))) (evC (.int 0))) (evOp2 dIx (evOp2 dIx (evVar 4) (evVar 6)) (evC (.int 0)))) (gvCons (evOp2 dAdd (evOp2 dIx (evOp2 dIx (evVar 4) (evOp2 dIx (evVar 7) (evC (.int 0)))) (evC (.int 1))) (evOp2 dIx (evOp2 dIx (evVar 4) (evVar 6)) (evC (.int 1)))) (gvNil))))) (svSeq (svSet 4 (evOp2 dAdd (evLc (ivEnum (evVar 4)) (gtTup 2 (gtCons (gtName 11) (gtCons (gtName 12) (gtNil)))) (tst (evOp2 dNotIn (evVar 11) (evTup (gvCons (evOp2 dIx (evVar 7) (evC (.int 0))) (gvCons (evVar 6) (gvNil)))))) (evVar 12) [11, 12]) (evLst (gvCons (evVar 8) (gvNil))))) (svBreak))) (svNext))))) 1000000) (svRet (evOps dTuple (avCons (evOps dSorted (avCons (evLc (ivOf (evVar 4)) (gtTup 2 (gtCons (gtName 13) (gtCons (gtName 14) (gtNil)))) (bvYes) (evOps dTuple (avCons (evOps dSorted (avCons (evVar 13) (avNil))) (avNil))) [13, 14]) (avNil))) (avNil)))))))
def fn__law_groups : FnV := fnOf 12 [false, false, false] b__law_groups
abbrev s__law_groups : Stmt := top 67
theorem S__law_groups : FnScope ["scene", "role", "given", "inside", "groups", "size", "at", "near", "both", "name", "one", "to", "group", "names", "columns"] ["scene", "role", "given"] (defScope s__law_groups) := ⟨rfl, rfl, rfl, by decide +kernel, rfl, by decide +kernel, by decide +kernel⟩
theorem ok__law_groups (T : Tx K mg cls) (D__law_closure : DefOk P w K mg base (Gx K cls atm) "_law_closure" 1 [false, false, false] fn__law_closure []) (D__law_role_columns : DefOk P w K mg base (Gx K cls atm) "_law_role_columns" 1 [false, false] fn__law_role_columns []) {f : Addr} {fd : FuncData} (F : Fun K "_law_groups" "_law_groups" s__law_groups f fd) : FnOk P w K mg base CX0 2 f fd ["scene", "role", "given"] (spF (Gx K cls atm) [false, false, false] fn__law_groups) :=
  have S := S__law_groups
  ok_def F S rfl rfl fun cdv A outer s H E H0 M hr => by
    have hu := hr.units
    exact pss_seq (ps_svSet (i := 3) S.nd rfl (Or.inr rfl) (pDef D__law_closure (hr.mono (by decide)) (pa_cvFr (pN 0 rfl (Or.inr (Or.inl rfl))) (pa_cvFr (pDef D__law_role_columns (hr.mono (by decide)) (pa_cvFr (pN 0 rfl (Or.inr (Or.inl rfl))) (pa_cvFr (pN 1 rfl (Or.inr (Or.inl rfl))) (pa_cvNil)))) (pa_cvFr (pN 2 rfl (Or.inl rfl)) (pa_cvNil)))))) (pss_seq (ps_svSet (i := 4) S.nd rfl (Or.inr rfl) (pe_evLc (own := [("name", 9)]) rfl S.nd (pi_ivOf rfl (pN 2 rfl (Or.inl rfl))) (blkOk_by (by show blkC ["scene", "role", "given", "inside", "groups", "size", "at", "near", "both", "name", "one", "to", "group", "names", "columns"] (defScope s__law_groups) _ _ = true; decide +kernel)) (fun _ _ _ _ _ _ => pg_gtName (i := 9) S.nd rfl (Or.inl rfl) (by decide)) (fun _ _ _ _ _ _ => pts_bv (pt_cmp2 (opd_ne rfl hu) (pN 9 rfl (Or.inl rfl)) (pN 1 rfl (Or.inr (Or.inl rfl))) (nomark _))) (fun _ _ _ _ _ _ => pe_evTup (pa_gvCons (pe_evLst (pa_gvCons (pN 9 rfl (Or.inl rfl)) (pa_gvNil))) (pa_gvCons (pe_evLc (own := [("one", 10)]) rfl S.nd (pi_ivOf rfl (pe_index (ixd rfl hu) (pe_index (ixd rfl hu) (pN 0 rfl (Or.inr (Or.inl rfl))) (pN 9 rfl (Or.inl rfl)) (fun _ _ => rfl)) (pe_evInt) (fun _ _ => rfl))) (blkOk_by (by show blkC ["scene", "role", "given", "inside", "groups", "size", "at", "near", "both", "name", "one", "to", "group", "names", "columns"] (relS _ (defScope s__law_groups)) _ _ = true; decide +kernel)) (fun _ _ _ _ _ _ => pg_gtName (i := 10) S.nd rfl (Or.inl rfl) (by decide)) (fun _ _ _ _ _ _ => pts_bv (pt_cmp2 (opd_notIn rfl hu) (pN 10 rfl (Or.inl rfl)) (pN 3 rfl (Or.inr (Or.inl rfl))) rfl)) (fun _ _ _ _ _ _ => pN 10 rfl (Or.inl rfl))) (pa_gvNil)))))) (pss_seq (ps_svSet (i := 5) S.nd rfl (Or.inl rfl) (pe_unary und_neg (pe_evInt))) (pss_seq (ps_svWhile (n := 1000000) PassesOwn.never (pt_cmp2 (opd_ne rfl hu) (pN 5 rfl (Or.inl rfl)) (pB bt_len T.b_len (calld_len rfl) (pa_avCons (pN 4 rfl (Or.inr (Or.inl rfl))) (pa_avNil))) (nomark _)) (pss_seq (ps_svSet (i := 5) S.nd rfl (Or.inl rfl) (pB bt_len T.b_len (calld_len rfl) (pa_avCons (pN 4 rfl (Or.inr (Or.inl rfl))) (pa_avNil)))) (pss_last (ps_svFor (ws := [6]) PassesOwn.never rfl (pi_ivRange1 rfl T.b_range (pN 5 rfl (Or.inl rfl))) (pg_gtName (i := 6) S.nd rfl (Or.inr rfl) (by decide)) (pss_seq (ps_svSet (i := 7) S.nd rfl (Or.inr rfl) (pe_evLc (own := [("to", 11)]) rfl S.nd (pi_ivRange1 rfl T.b_range (pN 6 rfl (Or.inr (Or.inl rfl)))) (blkOk_by (by show blkC ["scene", "role", "given", "inside", "groups", "size", "at", "near", "both", "name", "one", "to", "group", "names", "columns"] (defScope s__law_groups) _ _ = true; decide +kernel)) (fun _ _ _ _ _ _ => pg_gtName (i := 11) S.nd rfl (Or.inl rfl) (by decide)) (fun _ _ _ _ _ _ => pts_bv (pt_cmp2 (opd_ne rfl hu) (pe_evLc (own := [("one", 10)]) rfl S.nd (pi_ivOf rfl (pe_index (ixd rfl hu) (pe_index (ixd rfl hu) (pN 4 rfl (Or.inr (Or.inl rfl))) (pN 11 rfl (Or.inl rfl)) (fun _ _ => rfl)) (pe_evInt) (fun _ _ => rfl))) (blkOk_by (by show blkC ["scene", "role", "given", "inside", "groups", "size", "at", "near", "both", "name", "one", "to", "group", "names", "columns"] (relS _ (defScope s__law_groups)) _ _ = true; decide +kernel)) (fun _ _ _ _ _ _ => pg_gtName (i := 10) S.nd rfl (Or.inl rfl) (by decide)) (fun _ _ _ _ _ _ => pts_bv (pt_cmp2 (opd_in rfl hu) (pN 10 rfl (Or.inl rfl)) (pe_index (ixd rfl hu) (pe_index (ixd rfl hu) (pN 4 rfl (Or.inr (Or.inl rfl))) (pN 6 rfl (Or.inr (Or.inl rfl))) (fun _ _ => rfl)) (pe_evInt) (fun _ _ => rfl)) rfl)) (fun _ _ _ _ _ _ => pN 10 rfl (Or.inl rfl))) (pe_evLst (pa_gvNil)) (nomark _))) (fun _ _ _ _ _ _ => pN 11 rfl (Or.inl rfl)))) (pss_last (ps_svIf (pt_cmp2 (opd_ne rfl hu) (pN 7 rfl (Or.inr (Or.inl rfl))) (pe_evLst (pa_gvNil)) (nomark _)) (pss_seq (ps_svSet (i := 8) S.nd rfl (Or.inl rfl) (pe_evTup (pa_gvCons (pe_bin (opd_add rfl) (pe_index (ixd rfl hu) (pe_index (ixd rfl hu) (pN 4 rfl (Or.inr (Or.inl rfl))) (pe_index (ixd rfl hu) (pN 7 rfl (Or.inr (Or.inl rfl))) (pe_evInt) (fun _ _ => rfl)) (fun _ _ => rfl)) (pe_evInt) (fun _ _ => rfl)) (pe_index (ixd rfl hu) (pe_index (ixd rfl hu) (pN 4 rfl (Or.inr (Or.inl rfl))) (pN 6 rfl (Or.inr (Or.inl rfl))) (fun _ _ => rfl)) (pe_evInt) (fun _ _ => rfl))) (pa_gvCons (pe_bin (opd_add rfl) (pe_index (ixd rfl hu) (pe_index (ixd rfl hu) (pN 4 rfl (Or.inr (Or.inl rfl))) (pe_index (ixd rfl hu) (pN 7 rfl (Or.inr (Or.inl rfl))) (pe_evInt) (fun _ _ => rfl)) (fun _ _ => rfl)) (pe_evInt) (fun _ _ => rfl)) (pe_index (ixd rfl hu) (pe_index (ixd rfl hu) (pN 4 rfl (Or.inr (Or.inl rfl))) (pN 6 rfl (Or.inr (Or.inl rfl))) (fun _ _ => rfl)) (pe_evInt) (fun _ _ => rfl))) (pa_gvNil))))) (pss_seq (ps_svSet (i := 4) S.nd rfl (Or.inr rfl) (pe_bin (opd_add rfl) (pe_evLc (own := [("to", 11), ("group", 12)]) rfl S.nd (pi_ivEnum rfl T.b_enumerate (pN 4 rfl (Or.inr (Or.inl rfl)))) (blkOk_by (by show blkC ["scene", "role", "given", "inside", "groups", "size", "at", "near", "both", "name", "one", "to", "group", "names", "columns"] (defScope s__law_groups) _ _ = true; decide +kernel)) (fun _ _ _ _ _ _ => pg_gtTup rfl rfl (pgs_gtCons (pg_gtName (i := 11) S.nd rfl (Or.inl rfl) (by decide)) (pgs_gtCons (pg_gtName (i := 12) S.nd rfl (Or.inl rfl) (by decide)) (pgs_gtNil)))) (fun _ _ _ _ _ _ => pts_bv (pt_cmp2 (opd_notIn rfl hu) (pN 11 rfl (Or.inl rfl)) (pe_evTup (pa_gvCons (pe_index (ixd rfl hu) (pN 7 rfl (Or.inr (Or.inl rfl))) (pe_evInt) (fun _ _ => rfl)) (pa_gvCons (pN 6 rfl (Or.inr (Or.inl rfl))) (pa_gvNil)))) rfl)) (fun _ _ _ _ _ _ => pN 12 rfl (Or.inl rfl))) (pe_evLst (pa_gvCons (pN 8 rfl (Or.inl rfl)) (pa_gvNil))))) (pss_last (ps_svBreak)))) (pss_none)))))))) (pss_last (ps_svRet (pT bt_tuple T.b_tuple (calld_tuple rfl) (pa_avCons (pB bt_sorted T.b_sorted (calld_sorted rfl rfl hu) (pa_avCons (pe_evLc (own := [("names", 13), ("columns", 14)]) rfl S.nd (pi_ivOf rfl (pN 4 rfl (Or.inr (Or.inl rfl)))) (blkOk_by (by show blkC ["scene", "role", "given", "inside", "groups", "size", "at", "near", "both", "name", "one", "to", "group", "names", "columns"] (defScope s__law_groups) _ _ = true; decide +kernel)) (fun _ _ _ _ _ _ => pg_gtTup rfl rfl (pgs_gtCons (pg_gtName (i := 13) S.nd rfl (Or.inl rfl) (by decide)) (pgs_gtCons (pg_gtName (i := 14) S.nd rfl (Or.inl rfl) (by decide)) (pgs_gtNil)))) (fun _ _ _ _ _ _ => pts_bvYes) (fun _ _ _ _ _ _ => pT bt_tuple T.b_tuple (calld_tuple rfl) (pa_avCons (pB bt_sorted T.b_sorted (calld_sorted rfl rfl hu) (pa_avCons (pN 13 rfl (Or.inl rfl)) (pa_avNil))) (pa_avNil)))) (pa_avNil))) (pa_avNil))))))))
/-- _law_scene_made -/
def b__law_scene_made : SV := svRet (evCall (List.replicate 2 false) fn_Scene_of [] (cvAtm 0 (cvFr (evOps dTuple (avCons (evLc (ivOf (evVar 0)) (gtName 1) (bvYes) (evTup (gvCons (evVar 1) (gvCons (evOp2 dIx (evOp2 dIx (evVar 0) (evVar 1)) (evC (.int 0))) (gvCons (evOp2 dIx (evOp2 dIx (evVar 0) (evVar 1)) (evC (.int 1))) (gvNil))))) [1]) (avNil))) (cvNil))))
def fn__law_scene_made : FnV := fnOf 1 [false] b__law_scene_made
abbrev s__law_scene_made : Stmt := top 59
theorem S__law_scene_made : FnScope ["scene", "name"] ["scene"] (defScope s__law_scene_made) := ⟨rfl, rfl, rfl, by decide +kernel, rfl, by decide +kernel, by decide +kernel⟩
theorem ok__law_scene_made (T : Tx K mg cls) (M_Scene_of : CmtOk P w K mg base (Gx K cls atm) 0 "of" 7 fn_Scene_of 1) {f : Addr} {fd : FuncData} (F : Fun K "_law_scene_made" "_law_scene_made" s__law_scene_made f fd) : FnOk P w K mg base CX0 9 f fd ["scene"] (spF (Gx K cls atm) [false] fn__law_scene_made) :=
  have S := S__law_scene_made
  ok_def F S rfl rfl fun cdv A outer s H E H0 M hr => by
    have hu := hr.units
    exact pss_last (ps_svRet (pCmt (n := 1) M_Scene_of T.c_Scene (hr.mono (by decide)) (pa_cvFr (pT bt_tuple T.b_tuple (calld_tuple rfl) (pa_avCons (pe_evLc (own := [("name", 1)]) rfl S.nd (pi_ivOf rfl (pN 0 rfl (Or.inr (Or.inl rfl)))) (blkOk_by (by show blkC ["scene", "name"] (defScope s__law_scene_made) _ _ = true; decide +kernel)) (fun _ _ _ _ _ _ => pg_gtName (i := 1) S.nd rfl (Or.inl rfl) (by decide)) (fun _ _ _ _ _ _ => pts_bvYes) (fun _ _ _ _ _ _ => pe_evTup (pa_gvCons (pN 1 rfl (Or.inl rfl)) (pa_gvCons (pe_index (ixd rfl hu) (pe_index (ixd rfl hu) (pN 0 rfl (Or.inr (Or.inl rfl))) (pN 1 rfl (Or.inl rfl)) (fun _ _ => rfl)) (pe_evInt) (fun _ _ => rfl)) (pa_gvCons (pe_index (ixd rfl hu) (pe_index (ixd rfl hu) (pN 0 rfl (Or.inr (Or.inl rfl))) (pN 1 rfl (Or.inl rfl)) (fun _ _ => rfl)) (pe_evInt) (fun _ _ => rfl)) (pa_gvNil)))))) (pa_avNil))) (pa_cvNil))))
/-- _law_changing -/
def b__law_changing : SV := svRet (evLc (ivOf (evOps dSorted (avCons (evVar 0) (avNil)))) (gtName 1) (tst (evOp2 dEq (evOp2 dIx (evOp2 dIx (evVar 0) (evVar 1)) (evC (.int 1))) (evC (.str "changing")))) (evVar 1) [1])
def fn__law_changing : FnV := fnOf 1 [false] b__law_changing
abbrev s__law_changing : Stmt := top 60
theorem S__law_changing : FnScope ["scene", "name"] ["scene"] (defScope s__law_changing) := ⟨rfl, rfl, rfl, by decide +kernel, rfl, by decide +kernel, by decide +kernel⟩
theorem ok__law_changing (T : Tx K mg cls) {f : Addr} {fd : FuncData} (F : Fun K "_law_changing" "_law_changing" s__law_changing f fd) : FnOk P w K mg base CX0 1 f fd ["scene"] (spF (Gx K cls atm) [false] fn__law_changing) :=
  have S := S__law_changing
  ok_def F S rfl rfl fun cdv A outer s H E H0 M hr => by
    have hu := hr.units
    exact pss_last (ps_svRet (pe_evLc (own := [("name", 1)]) rfl S.nd (pi_ivOf rfl (pB bt_sorted T.b_sorted (calld_sorted rfl rfl hu) (pa_avCons (pN 0 rfl (Or.inr (Or.inl rfl))) (pa_avNil)))) (blkOk_by (by show blkC ["scene", "name"] (defScope s__law_changing) _ _ = true; decide +kernel)) (fun _ _ _ _ _ _ => pg_gtName (i := 1) S.nd rfl (Or.inl rfl) (by decide)) (fun _ _ _ _ _ _ => pts_bv (pt_cmp2 (opd_eq rfl hu) (pe_index (ixd rfl hu) (pe_index (ixd rfl hu) (pN 0 rfl (Or.inr (Or.inl rfl))) (pN 1 rfl (Or.inl rfl)) (fun _ _ => rfl)) (pe_evInt) (fun _ _ => rfl)) (pe_evStr) (nomark _))) (fun _ _ _ _ _ _ => pN 1 rfl (Or.inl rfl))))
/-- _law_pick -/
def b__law_pick : SV := svRet (evOp2 dIx (evVar 1) (evCall [true,false] fn__law_roll [] (cvLn 0 (cvFr (evOps dLen (avCons (evVar 1) (avNil))) (cvNil)))))
def fn__law_pick : FnV := fnOf 0 [true, false] b__law_pick
abbrev s__law_pick : Stmt := top 53
theorem S__law_pick : FnScope ["dice", "items"] ["dice", "items"] (defScope s__law_pick) := ⟨rfl, rfl, rfl, by decide +kernel, rfl, by decide +kernel, by decide +kernel⟩
theorem ok__law_pick (T : Tx K mg cls) (D__law_roll : DefOk P w K mg base (Gx K cls atm) "_law_roll" 1 [true, false] fn__law_roll []) {f : Addr} {fd : FuncData} (F : Fun K "_law_pick" "_law_pick" s__law_pick f fd) : FnOk P w K mg base CX0 2 f fd ["dice", "items"] (spF (Gx K cls atm) [true, false] fn__law_pick) :=
  have S := S__law_pick
  ok_def F S rfl rfl fun cdv A outer s H E H0 M hr => by
    have hu := hr.units
    exact pss_last (ps_svRet (pe_index (ixd rfl hu) (pN 1 rfl (Or.inl rfl)) (pDef D__law_roll (hr.mono (by decide)) (pa_cvLn (i := 0) rfl (Or.inl rfl) (by decide +kernel) (by decide +kernel) (pa_cvFr (pB bt_len T.b_len (calld_len rfl) (pa_avCons (pN 1 rfl (Or.inl rfl)) (pa_avNil))) (pa_cvNil)))) (fun _ _ => rfl)))
/-- _law_columns -/
def b__law_columns : SV := svSeq (svSet 1 (evLst (gvNil))) (svSeq (svFor (ivOf (evVar 0)) (gtName 2) (svExpr (evMth .lst 1 mExtend (gvCons (evLc (ivOf (evOp2 dIx (evOp2 dIx (evVar 0) (evVar 2)) (evC (.int 0)))) (gtName 3) (tst (evOp2 dNotIn (evVar 3) (evVar 1))) (evVar 3) [3]) (gvNil))))) (svRet (evOps dSorted (avCons (evVar 1) (avNil)))))
def fn__law_columns : FnV := fnOf 3 [false] b__law_columns
abbrev s__law_columns : Stmt := top 61
theorem S__law_columns : FnScope ["scene", "found", "name", "column"] ["scene"] (defScope s__law_columns) := ⟨rfl, rfl, rfl, by decide +kernel, rfl, by decide +kernel, by decide +kernel⟩
theorem ok__law_columns (T : Tx K mg cls) {f : Addr} {fd : FuncData} (F : Fun K "_law_columns" "_law_columns" s__law_columns f fd) : FnOk P w K mg base CX0 1 f fd ["scene"] (spF (Gx K cls atm) [false] fn__law_columns) :=
  have S := S__law_columns
  ok_def F S rfl rfl fun cdv A outer s H E H0 M hr => by
    have hu := hr.units
    exact pss_seq (ps_svSet (i := 1) S.nd rfl (Or.inr rfl) (pe_evLst (pa_gvNil))) (pss_seq (ps_svFor (ws := [2]) PassesOwn.never rfl (pi_ivOf rfl (pN 0 rfl (Or.inl rfl))) (pg_gtName (i := 2) S.nd rfl (Or.inl rfl) (by decide)) (pss_last (ps_svExpr (pExtend 1 (Or.inr (Or.inl rfl)) (pa_gvCons (pe_evLc (own := [("column", 3)]) rfl S.nd (pi_ivOf rfl (pe_index (ixd rfl hu) (pe_index (ixd rfl hu) (pN 0 rfl (Or.inl rfl)) (pN 2 rfl (Or.inl rfl)) (fun _ _ => rfl)) (pe_evInt) (fun _ _ => rfl))) (blkOk_by (by show blkC ["scene", "found", "name", "column"] (defScope s__law_columns) _ _ = true; decide +kernel)) (fun _ _ _ _ _ _ => pg_gtName (i := 3) S.nd rfl (Or.inl rfl) (by decide)) (fun _ _ _ _ _ _ => pts_bv (pt_cmp2 (opd_notIn rfl hu) (pN 3 rfl (Or.inl rfl)) (pN 1 rfl (Or.inr (Or.inl rfl))) rfl)) (fun _ _ _ _ _ _ => pN 3 rfl (Or.inl rfl))) (pa_gvNil)))))) (pss_last (ps_svRet (pB bt_sorted T.b_sorted (calld_sorted rfl rfl hu) (pa_avCons (pN 1 rfl (Or.inr (Or.inl rfl))) (pa_avNil))))))
/-- _law_door -/
def b__law_door : SV := svRet (evOps dTuple (avCons (evOps dSorted (avCons (evCall [true,false,false,false] fn__law_some [] (cvLn 0 (cvFr (evCall [false] fn__law_columns [] (cvFr (evVar 1) (cvNil))) (cvFr (evC (.int 0)) (cvFr (evC (.int 3)) (cvNil)))))) (avNil))) (avNil)))
def fn__law_door : FnV := fnOf 0 [true, false] b__law_door
abbrev s__law_door : Stmt := top 62
theorem S__law_door : FnScope ["dice", "scene"] ["dice", "scene"] (defScope s__law_door) := ⟨rfl, rfl, rfl, by decide +kernel, rfl, by decide +kernel, by decide +kernel⟩
theorem ok__law_door (T : Tx K mg cls) (D__law_columns : DefOk P w K mg base (Gx K cls atm) "_law_columns" 1 [false] fn__law_columns []) (D__law_some : DefOk P w K mg base (Gx K cls atm) "_law_some" 3 [true, false, false, false] fn__law_some []) {f : Addr} {fd : FuncData} (F : Fun K "_law_door" "_law_door" s__law_door f fd) : FnOk P w K mg base CX0 4 f fd ["dice", "scene"] (spF (Gx K cls atm) [true, false] fn__law_door) :=
  have S := S__law_door
  ok_def F S rfl rfl fun cdv A outer s H E H0 M hr => by
    have hu := hr.units
    exact pss_last (ps_svRet (pT bt_tuple T.b_tuple (calld_tuple rfl) (pa_avCons (pB bt_sorted T.b_sorted (calld_sorted rfl rfl hu) (pa_avCons (pDef D__law_some (hr.mono (by decide)) (pa_cvLn (i := 0) rfl (Or.inl rfl) (by decide +kernel) (by decide +kernel) (pa_cvFr (pDef D__law_columns (hr.mono (by decide)) (pa_cvFr (pN 1 rfl (Or.inl rfl)) (pa_cvNil))) (pa_cvFr (pe_evInt) (pa_cvFr (pe_evInt) (pa_cvNil)))))) (pa_avNil))) (pa_avNil))))
/-- _law_role -/
def b__law_role : SV := svSeq (svSet 2 (evCall [false] fn__law_changing [] (cvFr (evVar 1) (cvNil)))) (svRet (evIf (bvAnd (tst (evOp2 dNe (evVar 2) (evLst (gvNil)))) (tst (evOp2 dGt (evCall [true,false] fn__law_roll [] (cvLn 0 (cvFr (evC (.int 3)) (cvNil)))) (evC (.int 0))))) (evCall [true,false] fn__law_pick [] (cvLn 0 (cvFr (evVar 2) (cvNil)))) (evCall [true,false] fn__law_door [] (cvLn 0 (cvFr (evVar 1) (cvNil))))))
def fn__law_role : FnV := fnOf 1 [true, false] b__law_role
abbrev s__law_role : Stmt := top 63
theorem S__law_role : FnScope ["dice", "scene", "some"] ["dice", "scene"] (defScope s__law_role) := ⟨rfl, rfl, rfl, by decide +kernel, rfl, by decide +kernel, by decide +kernel⟩
theorem ok__law_role (T : Tx K mg cls) (D__law_changing : DefOk P w K mg base (Gx K cls atm) "_law_changing" 1 [false] fn__law_changing []) (D__law_door : DefOk P w K mg base (Gx K cls atm) "_law_door" 4 [true, false] fn__law_door []) (D__law_pick : DefOk P w K mg base (Gx K cls atm) "_law_pick" 2 [true, false] fn__law_pick []) (D__law_roll : DefOk P w K mg base (Gx K cls atm) "_law_roll" 1 [true, false] fn__law_roll []) {f : Addr} {fd : FuncData} (F : Fun K "_law_role" "_law_role" s__law_role f fd) : FnOk P w K mg base CX0 5 f fd ["dice", "scene"] (spF (Gx K cls atm) [true, false] fn__law_role) :=
  have S := S__law_role
  ok_def F S rfl rfl fun cdv A outer s H E H0 M hr => by
    have hu := hr.units
    exact pss_seq (ps_svSet (i := 2) S.nd rfl (Or.inl rfl) (pDef D__law_changing (hr.mono (by decide)) (pa_cvFr (pN 1 rfl (Or.inl rfl)) (pa_cvNil)))) (pss_last (ps_svRet (pe_ifB (pt_andB (pt_cmp2 (opd_ne rfl hu) (pN 2 rfl (Or.inl rfl)) (pe_evLst (pa_gvNil)) (nomark _)) (pt_one (pt_cmp2 (opd_gt) (pDef D__law_roll (hr.mono (by decide)) (pa_cvLn (i := 0) rfl (Or.inl rfl) (by decide +kernel) (by decide +kernel) (pa_cvFr (pe_evInt) (pa_cvNil)))) (pe_evInt) (nomark _)))) (pDef D__law_pick (hr.mono (by decide)) (pa_cvLn (i := 0) rfl (Or.inl rfl) (by decide +kernel) (by decide +kernel) (pa_cvFr (pN 2 rfl (Or.inl rfl)) (pa_cvNil)))) (pDef D__law_door (hr.mono (by decide)) (pa_cvLn (i := 0) rfl (Or.inl rfl) (by decide +kernel) (by decide +kernel) (pa_cvFr (pN 1 rfl (Or.inl rfl)) (pa_cvNil)))))))
/-- _law_given -/
def b__law_given : SV := svSeq (svSet 3 (evCall [true,false,false,false] fn__law_some [] (cvLn 0 (cvFr (evOps dSorted (avCons (evVar 1) (avNil))) (cvFr (evC (.int 1)) (cvFr (evC (.int 6)) (cvNil))))))) (svRet (evSortSet (evOp2 dAdd (evVar 3) (evIf (tst (evIsi (isB "str") (evVar 2))) (evLst (gvCons (evVar 2) (gvNil))) (evLst (gvNil))))))
def fn__law_given : FnV := fnOf 1 [true, false, false] b__law_given
abbrev s__law_given : Stmt := top 66
theorem S__law_given : FnScope ["dice", "scene", "role", "some"] ["dice", "scene", "role"] (defScope s__law_given) := ⟨rfl, rfl, rfl, by decide +kernel, rfl, by decide +kernel, by decide +kernel⟩
theorem ok__law_given (T : Tx K mg cls) (D__law_some : DefOk P w K mg base (Gx K cls atm) "_law_some" 3 [true, false, false, false] fn__law_some []) {f : Addr} {fd : FuncData} (F : Fun K "_law_given" "_law_given" s__law_given f fd) : FnOk P w K mg base CX0 4 f fd ["dice", "scene", "role"] (spF (Gx K cls atm) [true, false, false] fn__law_given) :=
  have S := S__law_given
  ok_def F S rfl rfl fun cdv A outer s H E H0 M hr => by
    have hu := hr.units
    exact pss_seq (ps_svSet (i := 3) S.nd rfl (Or.inl rfl) (pDef D__law_some (hr.mono (by decide)) (pa_cvLn (i := 0) rfl (Or.inl rfl) (by decide +kernel) (by decide +kernel) (pa_cvFr (pB bt_sorted T.b_sorted (calld_sorted rfl rfl hu) (pa_avCons (pN 1 rfl (Or.inl rfl)) (pa_avNil))) (pa_cvFr (pe_evInt) (pa_cvFr (pe_evInt) (pa_cvNil))))))) (pss_last (ps_svRet (pe_evSortSet rfl rfl hu rfl T.b_sorted rfl T.b_set (pe_bin (opd_add rfl) (pN 3 rfl (Or.inl rfl)) (pe_ifB (pt_ev (pIsB (T := "str") rfl T.b_isinstance T.b_str bt_str (pN 2 rfl (Or.inl rfl))) (fun _ => rfl)) (pe_evLst (pa_gvCons (pN 2 rfl (Or.inl rfl)) (pa_gvNil))) (pe_evLst (pa_gvNil)))))))
/-- _law_lacking -/
def b__law_lacking : SV := svRet (evLc (ivOf (evVar 0)) (gtName 2) (tst (evOp2 dNotIn (evVar 2) (evVar 1))) (evVar 2) [2])
def fn__law_lacking : FnV := fnOf 1 [false, true] b__law_lacking
abbrev s__law_lacking : Stmt := top 68
theorem S__law_lacking : FnScope ["some", "have", "one"] ["some", "have"] (defScope s__law_lacking) := ⟨rfl, rfl, rfl, by decide +kernel, rfl, by decide +kernel, by decide +kernel⟩
theorem ok__law_lacking (T : Tx K mg cls) {f : Addr} {fd : FuncData} (F : Fun K "_law_lacking" "_law_lacking" s__law_lacking f fd) : FnOk P w K mg base CX0 1 f fd ["some", "have"] (spF (Gx K cls atm) [false, true] fn__law_lacking) :=
  have S := S__law_lacking
  ok_def F S rfl rfl fun cdv A outer s H E H0 M hr => by
    have hu := hr.units
    exact pss_last (ps_svRet (pe_evLc (own := [("one", 2)]) rfl S.nd (pi_ivOf rfl (pN 0 rfl (Or.inl rfl))) (blkOk_by (by show blkC ["some", "have", "one"] (defScope s__law_lacking) _ _ = true; decide +kernel)) (fun _ _ _ _ _ _ => pg_gtName (i := 2) S.nd rfl (Or.inl rfl) (by decide)) (fun _ _ _ _ _ _ => pts_bv (pt_cmp2 (opd_notIn rfl hu) (pN 2 rfl (Or.inl rfl)) (pN 1 rfl (Or.inr (Or.inl rfl))) rfl)) (fun _ _ _ _ _ _ => pN 2 rfl (Or.inl rfl))))
/-- _law_piece_view -/
def b__law_piece_view : SV := svSeq (svSet 4 (evCall [false,false,false] fn__law_closure [] (cvFr (evVar 0) (cvFr (evCall [false,false] fn__law_role_columns [] (cvFr (evVar 0) (cvFr (evVar 1) (cvNil)))) (cvFr (evVar 2) (cvNil)))))) (svSeq (svSet 5 (evLst (gvNil))) (svSeq (svFor (ivOf (evVar 3)) (gtName 6) (svSet 5 (evOp2 dAdd (evVar 5) (evOps dList (avCons (evOp2 dIx (evOp2 dIx (evVar 0) (evVar 6)) (evC (.int 0))) (avNil)))))) (svSeq (svSet 7 (evLc (ivOf (evVar 5)) (gtName 13) (tst (evOp2 dIn (evVar 13) (evVar 4))) (evVar 13) [13])) (svSeq (svSet 8 (evSortSet (evVar 7))) (svSeq (svPar 9 10 (evOps dList (avCons (evVar 8) (avNil))) (evOps dList (avCons (evVar 3) (avNil)))) (svSeq (svFor (ivRange1 (evOps dLen (avCons (evVar 2) (avNil)))) (gtName 11) (svFor (ivOf (evVar 2)) (gtName 6) (svSeq (svSet 12 (evOp2 dIx (evOp2 dIx (evVar 0) (evVar 6)) (evC (.int 1)))) (svIf (bvAnd (tst (evIsi (isB "tuple") (evVar 12))) (tst (evOp2 dEq (evCall [false,true] fn__law_lacking [] (cvFr (evVar 12) (cvLn 9 (cvNil)))) (evLst (gvNil))))) (svSeq (svExpr (evMth .lst 10 mAppend (gvCons (evVar 6) (gvNil)))) (svExpr (evMth .lst 9 mExtend (gvCons (evOps dList (avCons (evOp2 dIx (evOp2 dIx (evVar 0) (evVar 6)) (evC (.int 0))) (avNil))) (gvNil))))) (svNext))))) (svRet (evTup (gvCons (evOps dTuple (avCons (evSortSet (evVar 10)) (avNil))) (gvCons (evOps dTuple (avCons (evVar 8) (avNil))) (gvNil)))))))))))
def fn__law_piece_view : FnV := fnOf 10 [false, false, false, false] b__law_piece_view
abbrev s__law_piece_view : Stmt := top 69
theorem S__law_piece_view : FnScope ["scene", "role", "given", "piece", "inside", "here", "name", "both", "begun", "have", "some", "turn", "kind", "one"] ["scene", "role", "given", "piece"] (defScope s__law_piece_view) := ⟨rfl, rfl, rfl, by decide +kernel, rfl, by decide +kernel, by decide +kernel⟩
theorem ok__law_piece_view (T : Tx K mg cls) (D__law_closure : DefOk P w K mg base (Gx K cls atm) "_law_closure" 1 [false, false, false] fn__law_closure []) (D__law_lacking : DefOk P w K mg base (Gx K cls atm) "_law_lacking" 1 [false, true] fn__law_lacking []) (D__law_role_columns : DefOk P w K mg base (Gx K cls atm) "_law_role_columns" 1 [false, false] fn__law_role_columns []) {f : Addr} {fd : FuncData} (F : Fun K "_law_piece_view" "_law_piece_view" s__law_piece_view f fd) : FnOk P w K mg base CX0 2 f fd ["scene", "role", "given", "piece"] (spF (Gx K cls atm) [false, false, false, false] fn__law_piece_view) :=
  have S := S__law_piece_view
  ok_def F S rfl rfl fun cdv A outer s H E H0 M hr => by
    have hu := hr.units
    exact pss_seq (ps_svSet (i := 4) S.nd rfl (Or.inr rfl) (pDef D__law_closure (hr.mono (by decide)) (pa_cvFr (pN 0 rfl (Or.inl rfl)) (pa_cvFr (pDef D__law_role_columns (hr.mono (by decide)) (pa_cvFr (pN 0 rfl (Or.inl rfl)) (pa_cvFr (pN 1 rfl (Or.inl rfl)) (pa_cvNil)))) (pa_cvFr (pN 2 rfl (Or.inl rfl)) (pa_cvNil)))))) (pss_seq (ps_svSet (i := 5) S.nd rfl (Or.inl rfl) (pe_evLst (pa_gvNil))) (pss_seq (ps_svFor (ws := [6]) PassesOwn.never rfl (pi_ivOf rfl (pN 3 rfl (Or.inl rfl))) (pg_gtName (i := 6) S.nd rfl (Or.inl rfl) (by decide)) (pss_last (ps_svSet (i := 5) S.nd rfl (Or.inl rfl) (pe_bin (opd_add rfl) (pN 5 rfl (Or.inl rfl)) (pT bt_list T.b_list (calld_list rfl rfl) (pa_avCons (pe_index (ixd rfl hu) (pe_index (ixd rfl hu) (pN 0 rfl (Or.inl rfl)) (pN 6 rfl (Or.inl rfl)) (fun _ _ => rfl)) (pe_evInt) (fun _ _ => rfl)) (pa_avNil))))))) (pss_seq (ps_svSetLc (i := 7) (own := [("one", 13)]) rfl S.nd rfl rfl rfl (pi_ivOf rfl (pN 5 rfl (Or.inl rfl))) (blkOk_by (by show blkC ["scene", "role", "given", "piece", "inside", "here", "name", "both", "begun", "have", "some", "turn", "kind", "one"] (defScope s__law_piece_view) _ _ = true; decide +kernel)) (fun _ _ _ _ _ _ => pg_gtName (i := 13) S.nd rfl (Or.inl rfl) (by decide)) (fun _ _ _ _ _ _ => pts_bv (pt_cmp2 (opd_in rfl hu) (pN 13 rfl (Or.inl rfl)) (pN 4 rfl (Or.inr (Or.inl rfl))) rfl)) (fun _ _ _ _ _ _ => pN 13 rfl (Or.inl rfl))) (pss_seq (ps_svSet (i := 8) S.nd rfl (Or.inl rfl) (pe_evSortSet rfl rfl hu rfl T.b_sorted rfl T.b_set (pN 7 rfl (Or.inl rfl)))) (pss_seq (ps_svPar (i := 9) (j := 10) rfl S.nd rfl rfl (by decide) rfl rfl (pT bt_list T.b_list (calld_list rfl rfl) (pa_avCons (pN 8 rfl (Or.inl rfl)) (pa_avNil))) (fun _ => pT bt_list T.b_list (calld_list rfl rfl) (pa_avCons (pN 3 rfl (Or.inl rfl)) (pa_avNil))) rfl) (pss_seq (ps_svFor (ws := [11]) PassesOwn.never rfl (pi_ivRange1 rfl T.b_range (pB bt_len T.b_len (calld_len rfl) (pa_avCons (pN 2 rfl (Or.inl rfl)) (pa_avNil)))) (pg_gtName (i := 11) S.nd rfl (Or.inl rfl) (by decide)) (pss_last (ps_svFor (ws := [6]) PassesOwn.never rfl (pi_ivOf rfl (pN 2 rfl (Or.inl rfl))) (pg_gtName (i := 6) S.nd rfl (Or.inl rfl) (by decide)) (pss_seq (ps_svSet (i := 12) S.nd rfl (Or.inl rfl) (pe_index (ixd rfl hu) (pe_index (ixd rfl hu) (pN 0 rfl (Or.inl rfl)) (pN 6 rfl (Or.inl rfl)) (fun _ _ => rfl)) (pe_evInt) (fun _ _ => rfl))) (pss_last (ps_svIf (pt_andB (pt_ev (pIsB (T := "tuple") rfl T.b_isinstance T.b_tuple bt_tuple (pN 12 rfl (Or.inl rfl))) (fun _ => rfl)) (pt_one (pt_cmp2 (opd_eq rfl hu) (pDef D__law_lacking (hr.mono (by decide)) (pa_cvFr (pN 12 rfl (Or.inl rfl)) (pa_cvLn (i := 9) rfl (Or.inl rfl) (by decide +kernel) (by decide +kernel) (pa_cvNil)))) (pe_evLst (pa_gvNil)) (nomark _)))) (pss_seq (ps_svExpr (pAppend 10 (Or.inl rfl) (pa_gvCons (pN 6 rfl (Or.inl rfl)) (pa_gvNil)))) (pss_last (ps_svExpr (pExtend 9 (Or.inl rfl) (pa_gvCons (pT bt_list T.b_list (calld_list rfl rfl) (pa_avCons (pe_index (ixd rfl hu) (pe_index (ixd rfl hu) (pN 0 rfl (Or.inl rfl)) (pN 6 rfl (Or.inl rfl)) (fun _ _ => rfl)) (pe_evInt) (fun _ _ => rfl)) (pa_avNil))) (pa_gvNil)))))) (pss_none))))))) (pss_last (ps_svRet (pe_evTup (pa_gvCons (pT bt_tuple T.b_tuple (calld_tuple rfl) (pa_avCons (pe_evSortSet rfl rfl hu rfl T.b_sorted rfl T.b_set (pN 10 rfl (Or.inl rfl))) (pa_avNil))) (pa_gvCons (pT bt_tuple T.b_tuple (calld_tuple rfl) (pa_avCons (pN 8 rfl (Or.inl rfl)) (pa_avNil))) (pa_gvNil))))))))))))
/-- pieces -/
def b_pieces : SV := svSeq (svExpr (evCall [false] fn_require_scene [] (cvFr (evVar 0) (cvNil)))) (svSeq (svExpr (evCall [false,false] fn_require_role [] (cvFr (evVar 0) (cvFr (evVar 1) (cvNil))))) (svRet (evCall [false,false,false] fn_pieces_in [] (cvFr (evVar 0) (cvFr (evVar 1) (cvFr (evCall [false,false,false] fn_given_tables [] (cvFr (evVar 0) (cvFr (evVar 1) (cvFr (evVar 2) (cvNil))))) (cvNil)))))))
def fn_pieces : FnV := fnOf 0 [false, false, false] b_pieces
abbrev s_pieces : Stmt := top 47
theorem S_pieces : FnScope ["scene", "role", "tables"] ["scene", "role", "tables"] (defScope s_pieces) := ⟨rfl, rfl, rfl, by decide +kernel, rfl, by decide +kernel, by decide +kernel⟩
theorem ok_pieces (T : Tx K mg cls) (D_given_tables : DefOk P w K mg base (Gx K cls atm) "given_tables" 5 [false, false, false] fn_given_tables []) (D_pieces_in : DefOk P w K mg base (Gx K cls atm) "pieces_in" 3 [false, false, false] fn_pieces_in []) (D_require_role : DefOk P w K mg base (Gx K cls atm) "require_role" 5 [false, false] fn_require_role []) (D_require_scene : DefOk P w K mg base (Gx K cls atm) "require_scene" 1 [false] fn_require_scene []) {f : Addr} {fd : FuncData} {dvs : List V} {kws : List (Str × V)} (F : FunD K "pieces" "pieces" (defArgs s_pieces) (defBody s_pieces) (defScope s_pieces) dvs kws f fd) : FnOk P w K mg base CX0 6 f fd ["scene", "role", "tables"] (spF (Gx K cls atm) [false, false, false] fn_pieces) :=
  have S := S_pieces
  ok_defD F S rfl rfl fun cdv A outer s H E H0 M hr => by
    have hu := hr.units
    exact pss_seq (ps_svExpr (pDef D_require_scene (hr.mono (by decide)) (pa_cvFr (pN 0 rfl (Or.inl rfl)) (pa_cvNil)))) (pss_seq (ps_svExpr (pDef D_require_role (hr.mono (by decide)) (pa_cvFr (pN 0 rfl (Or.inl rfl)) (pa_cvFr (pN 1 rfl (Or.inl rfl)) (pa_cvNil))))) (pss_last (ps_svRet (pDef D_pieces_in (hr.mono (by decide)) (pa_cvFr (pN 0 rfl (Or.inl rfl)) (pa_cvFr (pN 1 rfl (Or.inl rfl)) (pa_cvFr (pDef D_given_tables (hr.mono (by decide)) (pa_cvFr (pN 0 rfl (Or.inl rfl)) (pa_cvFr (pN 1 rfl (Or.inl rfl)) (pa_cvFr (pN 2 rfl (Or.inl rfl)) (pa_cvNil))))) (pa_cvNil))))))))
/-- _law_case_right -/
def b__law_case_right : SV := svSeq (svSet 1 (evCall [true,false,false,false] fn__law_scene [] (cvLn 0 (cvFr (evC (.int 6)) (cvFr (evC (.int 6)) (cvFr (evC (.int 2)) (cvNil))))))) (svSeq (svPar 2 3 (evCall [false] fn__law_scene_made [] (cvFr (evVar 1) (cvNil))) (evCall [true,false] fn__law_role [] (cvLn 0 (cvFr (evVar 1) (cvNil))))) (svSeq (svFor (ivOf (evTup (gvCons (evOps dSorted (avCons (evVar 1) (avNil))) (gvCons (evCall [true,false,false] fn__law_given [] (cvLn 0 (cvFr (evVar 1) (cvFr (evVar 3) (cvNil))))) (gvNil))))) (gtName 4) (svSeq (svSet 5 (evCall [false,false,false] fn__law_groups [] (cvFr (evVar 1) (cvFr (evVar 3) (cvFr (evVar 4) (cvNil)))))) (svSeq (svSet 6 (evLc (ivOf (evVar 5)) (gtName 9) (bvYes) (evCall [false,false,false,false] fn__law_piece_view [] (cvFr (evVar 1) (cvFr (evVar 3) (cvFr (evVar 4) (cvFr (evVar 9) (cvNil)))))) [9])) (svSeq (svIf (tst (evOp2 dNe (evCall [false,false,false] fn_piece_views [] (cvK (cvFr (evVar 2) (cvFr (evVar 3) (cvNil))) (gvCons (evOps dTuple (avCons (evVar 4) (avNil))) (gvNil)) putKw)) (evOps dTuple (avCons (evVar 6) (avNil))))) (svRet (evC (.bl false))) (svNext)) (svSeq (svSet 7 (evLc (ivOf (evVar 5)) (gtName 9) (bvYes) (evCall [false,false,false,false] fn_closed_piece [] (cvK (cvFr (evVar 2) (cvFr (evVar 3) (cvFr (evVar 9) (cvNil)))) (gvCons (evOps dTuple (avCons (evVar 4) (avNil))) (gvNil)) putKw)) [9])) (svIf (bvOr (tst (evOp2 dNe (evVar 7) (evLc (ivOf (evVar 6)) (gtTup 2 (gtCons (gtName 8) (gtCons (gtName 10) (gtNil)))) (bvYes) (evVar 8) [8, 10]))) (tst (evOp2 dNe (evCall [false,false,false] fn_pieces [] (cvK (cvFr (evVar 2) (cvFr (evVar 3) (cvNil))) (gvCons (evOps dTuple (avCons (evVar 4) (avNil))) (gvNil)) putKw)) (evVar 5)))) (svRet (evC (.bl false))) (svNext))))))) (svSeq (svSet 8 (evOps dSorted (avCons (evVar 1) (avNil)))) (svSeq (svSet 5 (evCall [false,false,false] fn__law_groups [] (cvFr (evVar 1) (cvFr (evVar 3) (cvFr (evVar 8) (cvNil)))))) (svSeq (svSet 6 (evLc (ivOf (evVar 5)) (gtName 9) (bvYes) (evCall [false,false,false,false] fn__law_piece_view [] (cvFr (evVar 1) (cvFr (evVar 3) (cvFr (evVar 8) (cvFr (evVar 9) (cvNil)))))) [9])) (svRet (evOp2 dEq (evCall [false,false,false] fn_piece_views [.non] (cvFr (evVar 2) (cvFr (evVar 3) (cvNil)))) (evOps dTuple (avCons (evVar 6) (avNil))))))))))
def fn__law_case_right : FnV := fnOf 10 [true] b__law_case_right
abbrev s__law_case_right : Stmt := top 70
theorem S__law_case_right : FnScope ["dice", "scene", "made", "role", "given", "groups", "due", "told", "names", "piece", "columns"] ["dice"] (defScope s__law_case_right) := ⟨rfl, rfl, rfl, by decide +kernel, rfl, by decide +kernel, by decide +kernel⟩
theorem ok__law_case_right (T : Tx K mg cls) (D__law_given : DefOk P w K mg base (Gx K cls atm) "_law_given" 4 [true, false, false] fn__law_given []) (D__law_groups : DefOk P w K mg base (Gx K cls atm) "_law_groups" 2 [false, false, false] fn__law_groups []) (D__law_piece_view : DefOk P w K mg base (Gx K cls atm) "_law_piece_view" 2 [false, false, false, false] fn__law_piece_view []) (D__law_role : DefOk P w K mg base (Gx K cls atm) "_law_role" 5 [true, false] fn__law_role []) (D__law_scene : DefOk P w K mg base (Gx K cls atm) "_law_scene" 5 [true, false, false, false] fn__law_scene []) (D__law_scene_made : DefOk P w K mg base (Gx K cls atm) "_law_scene_made" 9 [false] fn__law_scene_made []) (N_closed_piece : DkwOk P w K mg base (Gx K cls atm) "closed_piece" 6 3 [false, false, false, false] fn_closed_piece ["tables"]) (D_piece_views : DefOk P w K mg base (Gx K cls atm) "piece_views" 6 [false, false, false] fn_piece_views [.non]) (N_piece_views : DkwOk P w K mg base (Gx K cls atm) "piece_views" 6 2 [false, false, false] fn_piece_views ["tables"]) (N_pieces : DkwOk P w K mg base (Gx K cls atm) "pieces" 6 2 [false, false, false] fn_pieces ["tables"]) {f : Addr} {fd : FuncData} (F : Fun K "_law_case_right" "_law_case_right" s__law_case_right f fd) : FnOk P w K mg base CX0 10 f fd ["dice"] (spF (Gx K cls atm) [true] fn__law_case_right) :=
  have S := S__law_case_right
  ok_def F S rfl rfl fun cdv A outer s H E H0 M hr => by
    have hu := hr.units
    exact pss_seq (ps_svSet (i := 1) S.nd rfl (Or.inr rfl) (pDef D__law_scene (hr.mono (by decide)) (pa_cvLn (i := 0) rfl (Or.inl rfl) (by decide +kernel) (by decide +kernel) (pa_cvFr (pe_evInt) (pa_cvFr (pe_evInt) (pa_cvFr (pe_evInt) (pa_cvNil))))))) (pss_seq (ps_svParT (i := 2) (j := 3) rfl rfl S.nd rfl rfl (Or.inr rfl) (Or.inr rfl) (pDef D__law_scene_made (hr.mono (by decide)) (pa_cvFr (pN 1 rfl (Or.inr (Or.inl rfl))) (pa_cvNil))) (fun _ => pDef D__law_role (hr.mono (by decide)) (pa_cvLn (i := 0) rfl (Or.inl rfl) (by decide +kernel) (by decide +kernel) (pa_cvFr (pN 1 rfl (Or.inr (Or.inl rfl))) (pa_cvNil))))) (pss_seq (ps_svFor (ws := [4]) PassesOwn.never rfl (pi_ivOf rfl (pe_evTup (pa_gvCons (pB bt_sorted T.b_sorted (calld_sorted rfl rfl hu) (pa_avCons (pN 1 rfl (Or.inr (Or.inl rfl))) (pa_avNil))) (pa_gvCons (pDef D__law_given (hr.mono (by decide)) (pa_cvLn (i := 0) rfl (Or.inl rfl) (by decide +kernel) (by decide +kernel) (pa_cvFr (pN 1 rfl (Or.inr (Or.inl rfl))) (pa_cvFr (pN 3 rfl (Or.inr (Or.inl rfl))) (pa_cvNil))))) (pa_gvNil))))) (pg_gtName (i := 4) S.nd rfl (Or.inr rfl) (by decide)) (pss_seq (ps_svSet (i := 5) S.nd rfl (Or.inl rfl) (pDef D__law_groups (hr.mono (by decide)) (pa_cvFr (pN 1 rfl (Or.inr (Or.inl rfl))) (pa_cvFr (pN 3 rfl (Or.inr (Or.inl rfl))) (pa_cvFr (pN 4 rfl (Or.inr (Or.inl rfl))) (pa_cvNil)))))) (pss_seq (ps_svSetLc (i := 6) (own := [("piece", 9)]) rfl S.nd rfl rfl rfl (pi_ivOf rfl (pN 5 rfl (Or.inl rfl))) (blkOk_by (by show blkC ["dice", "scene", "made", "role", "given", "groups", "due", "told", "names", "piece", "columns"] (defScope s__law_case_right) _ _ = true; decide +kernel)) (fun _ _ _ _ _ _ => pg_gtName (i := 9) S.nd rfl (Or.inl rfl) (by decide)) (fun _ _ _ _ _ _ => pts_bvYes) (fun _ _ _ _ _ _ => pDef D__law_piece_view (hr.mono (by decide)) (pa_cvFr (pN 1 rfl (Or.inr (Or.inl rfl))) (pa_cvFr (pN 3 rfl (Or.inr (Or.inl rfl))) (pa_cvFr (pN 4 rfl (Or.inr (Or.inl rfl))) (pa_cvFr (pN 9 rfl (Or.inl rfl)) (pa_cvNil))))))) (pss_seq (ps_svIf (pt_cmp2 (opd_ne rfl hu) (pDefK N_piece_views (hr.mono (by decide)) (pa_cvFr (pN 2 rfl (Or.inr (Or.inl rfl))) (pa_cvFr (pN 3 rfl (Or.inr (Or.inl rfl))) (pa_cvNil))) (len_cons (len_nil)) (pk_gvCons (pT bt_tuple T.b_tuple (calld_tuple rfl) (pa_avCons (pN 4 rfl (Or.inr (Or.inl rfl))) (pa_avNil))) (pk_gvNil))) (pT bt_tuple T.b_tuple (calld_tuple rfl) (pa_avCons (pN 6 rfl (Or.inl rfl)) (pa_avNil))) (nomark _)) (pss_last (ps_svRet (pe_evBl))) (pss_none)) (pss_seq (ps_svSetLc (i := 7) (own := [("piece", 9)]) rfl S.nd rfl rfl rfl (pi_ivOf rfl (pN 5 rfl (Or.inl rfl))) (blkOk_by (by show blkC ["dice", "scene", "made", "role", "given", "groups", "due", "told", "names", "piece", "columns"] (defScope s__law_case_right) _ _ = true; decide +kernel)) (fun _ _ _ _ _ _ => pg_gtName (i := 9) S.nd rfl (Or.inl rfl) (by decide)) (fun _ _ _ _ _ _ => pts_bvYes) (fun _ _ _ _ _ _ => pDefK N_closed_piece (hr.mono (by decide)) (pa_cvFr (pN 2 rfl (Or.inr (Or.inl rfl))) (pa_cvFr (pN 3 rfl (Or.inr (Or.inl rfl))) (pa_cvFr (pN 9 rfl (Or.inl rfl)) (pa_cvNil)))) (len_cons (len_nil)) (pk_gvCons (pT bt_tuple T.b_tuple (calld_tuple rfl) (pa_avCons (pN 4 rfl (Or.inr (Or.inl rfl))) (pa_avNil))) (pk_gvNil)))) (pss_last (ps_svIf (pt_orB (pt_cmp2 (opd_ne rfl hu) (pN 7 rfl (Or.inl rfl)) (pe_evLc (own := [("names", 8), ("columns", 10)]) rfl S.nd (pi_ivOf rfl (pN 6 rfl (Or.inl rfl))) (blkOk_by (by show blkC ["dice", "scene", "made", "role", "given", "groups", "due", "told", "names", "piece", "columns"] (defScope s__law_case_right) _ _ = true; decide +kernel)) (fun _ _ _ _ _ _ => pg_gtTup rfl rfl (pgs_gtCons (pg_gtName (i := 8) S.nd rfl (Or.inl rfl) (by decide)) (pgs_gtCons (pg_gtName (i := 10) S.nd rfl (Or.inl rfl) (by decide)) (pgs_gtNil)))) (fun _ _ _ _ _ _ => pts_bvYes) (fun _ _ _ _ _ _ => pN 8 rfl (Or.inl rfl))) (nomark _)) (pt_oneO (pt_cmp2 (opd_ne rfl hu) (pDefK N_pieces (hr.mono (by decide)) (pa_cvFr (pN 2 rfl (Or.inr (Or.inl rfl))) (pa_cvFr (pN 3 rfl (Or.inr (Or.inl rfl))) (pa_cvNil))) (len_cons (len_nil)) (pk_gvCons (pT bt_tuple T.b_tuple (calld_tuple rfl) (pa_avCons (pN 4 rfl (Or.inr (Or.inl rfl))) (pa_avNil))) (pk_gvNil))) (pN 5 rfl (Or.inl rfl)) (nomark _)))) (pss_last (ps_svRet (pe_evBl))) (pss_none)))))))) (pss_seq (ps_svSet (i := 8) S.nd rfl (Or.inr rfl) (pB bt_sorted T.b_sorted (calld_sorted rfl rfl hu) (pa_avCons (pN 1 rfl (Or.inr (Or.inl rfl))) (pa_avNil)))) (pss_seq (ps_svSet (i := 5) S.nd rfl (Or.inl rfl) (pDef D__law_groups (hr.mono (by decide)) (pa_cvFr (pN 1 rfl (Or.inr (Or.inl rfl))) (pa_cvFr (pN 3 rfl (Or.inr (Or.inl rfl))) (pa_cvFr (pN 8 rfl (Or.inr (Or.inl rfl))) (pa_cvNil)))))) (pss_seq (ps_svSetLc (i := 6) (own := [("piece", 9)]) rfl S.nd rfl rfl rfl (pi_ivOf rfl (pN 5 rfl (Or.inl rfl))) (blkOk_by (by show blkC ["dice", "scene", "made", "role", "given", "groups", "due", "told", "names", "piece", "columns"] (defScope s__law_case_right) _ _ = true; decide +kernel)) (fun _ _ _ _ _ _ => pg_gtName (i := 9) S.nd rfl (Or.inl rfl) (by decide)) (fun _ _ _ _ _ _ => pts_bvYes) (fun _ _ _ _ _ _ => pDef D__law_piece_view (hr.mono (by decide)) (pa_cvFr (pN 1 rfl (Or.inr (Or.inl rfl))) (pa_cvFr (pN 3 rfl (Or.inr (Or.inl rfl))) (pa_cvFr (pN 8 rfl (Or.inr (Or.inl rfl))) (pa_cvFr (pN 9 rfl (Or.inl rfl)) (pa_cvNil))))))) (pss_last (ps_svRet (pe_cmp2 (opd_eq rfl hu) (pDef D_piece_views (hr.mono (by decide)) (pa_cvFr (pN 2 rfl (Or.inr (Or.inl rfl))) (pa_cvFr (pN 3 rfl (Or.inr (Or.inl rfl))) (pa_cvNil)))) (pT bt_tuple T.b_tuple (calld_tuple rfl) (pa_avCons (pN 6 rfl (Or.inl rfl)) (pa_avNil))) (nomark _)))))))))
/-- law -/
def b_law : SV := svSeq (svFor (ivRange1 (evOps dMax (avCons (evC (.int 1)) (avCons (evOps dMin (avCons (evC (.int 6)) (avCons (evOps dLen (avCons (evVar 0) (avNil))) (avNil)))) (avNil))))) (gtName 1) (svSeq (svSet 2 (evCall [false,false] fn__law_dice [] (cvFr (evVar 0) (cvFr (evVar 1) (cvNil))))) (svFor (ivRange1 (evC (.int 4))) (gtName 3) (svIf (bvNot (tst (evCall [true] fn__law_case_right [] (cvLn 2 (cvNil))))) (svRet (evC (.bl false))) (svNext))))) (svSeq (svSet 4 (evTup (gvCons (evTup (gvCons (evC (.str "a")) (gvCons (evTup (gvCons (evC (.str "x")) (gvNil))) (gvCons (evC (.str "changing")) (gvNil))))) (gvCons (evTup (gvCons (evC (.str "k")) (gvCons (evTup (gvCons (evC (.str "x")) (gvCons (evC (.str "y")) (gvNil)))) (gvCons (evTup (gvCons (evC (.str "x")) (gvNil))) (gvNil))))) (gvCons (evTup (gvCons (evC (.str "l")) (gvCons (evTup (gvCons (evC (.str "y")) (gvCons (evC (.str "z")) (gvNil)))) (gvCons (evTup (gvCons (evC (.str "y")) (gvNil))) (gvNil))))) (gvCons (evTup (gvCons (evC (.str "n")) (gvCons (evTup (gvCons (evC (.str "z")) (gvNil))) (gvCons (evTup (gvNil)) (gvNil))))) (gvNil))))))) (svSeq (svSet 5 (evCall (List.replicate 2 false) fn_Scene_of [] (cvAtm 0 (cvFr (evOp2 dAdd (evVar 4) (evTup (gvCons (evTup (gvCons (evC (.str "b")) (gvCons (evTup (gvCons (evC (.str "x")) (gvCons (evC (.str "z")) (gvNil)))) (gvCons (evC (.str "changing")) (gvNil))))) (gvNil)))) (cvNil))))) (svSeq (svSet 6 (evLst (gvCons (evCall [false,false,false,false] fn_closed_piece [.non] (cvFr (evVar 5) (cvFr (evC (.str "a")) (cvFr (evTup (gvCons (evC (.str "b")) (gvNil))) (cvNil))))) (gvCons (evCall [false,false,false,false] fn_closed_piece [.non] (cvFr (evVar 5) (cvFr (evTup (gvCons (evC (.str "y")) (gvNil))) (cvFr (evTup (gvCons (evC (.str "a")) (gvCons (evC (.str "b")) (gvCons (evC (.str "k")) (gvNil))))) (cvNil))))) (gvCons (evCall [false,false,false] fn_piece_views [.non] (cvFr (evVar 5) (cvFr (evC (.str "b")) (cvNil)))) (gvNil)))))) (svSeq (svIf (tst (evOp2 dNe (evSl (evVar 6) (pvNo) (pvOf (evC (.int 2)))) (evLst (gvCons (evTup (gvCons (evC (.str "b")) (gvCons (evC (.str "k")) (gvCons (evC (.str "l")) (gvCons (evC (.str "n")) (gvNil)))))) (gvCons (evTup (gvCons (evC (.str "a")) (gvCons (evC (.str "b")) (gvCons (evC (.str "k")) (gvCons (evC (.str "l")) (gvCons (evC (.str "n")) (gvNil))))))) (gvNil)))))) (svRet (evC (.bl false))) (svNext)) (svSeq (svSet 7 (evLst (gvCons (evTup (gvCons (evTup (gvCons (evC (.str "a")) (gvCons (evC (.str "k")) (gvCons (evC (.str "l")) (gvCons (evC (.str "n")) (gvNil)))))) (gvCons (evTup (gvCons (evC (.str "x")) (gvNil))) (gvNil)))) (gvCons (evTup (gvCons (evTup (gvCons (evC (.str "k")) (gvCons (evC (.str "l")) (gvCons (evC (.str "n")) (gvNil))))) (gvCons (evTup (gvCons (evC (.str "x")) (gvCons (evC (.str "y")) (gvNil)))) (gvNil)))) (gvCons (evTup (gvCons (evTup (gvCons (evC (.str "l")) (gvCons (evC (.str "n")) (gvNil)))) (gvCons (evTup (gvCons (evC (.str "y")) (gvCons (evC (.str "z")) (gvNil)))) (gvNil)))) (gvNil)))))) (svSeq (svIf (tst (evOp2 dNe (evOp2 dIx (evVar 6) (evC (.int 2))) (evOps dTuple (avCons (evOp2 dAdd (evVar 7) (evLst (gvCons (evTup (gvCons (evTup (gvCons (evC (.str "n")) (gvNil))) (gvCons (evTup (gvCons (evC (.str "z")) (gvNil))) (gvNil)))) (gvNil)))) (avNil))))) (svRet (evC (.bl false))) (svNext)) (svSeq (svSet 8 (evCall (List.replicate 2 false) fn_Scene_of [] (cvAtm 0 (cvFr (evTup (gvCons (evTup (gvCons (evC (.str "k")) (gvCons (evTup (gvCons (evC (.str "x")) (gvCons (evC (.str "y")) (gvNil)))) (gvCons (evTup (gvCons (evC (.str "x")) (gvNil))) (gvNil))))) (gvCons (evTup (gvCons (evC (.str "l")) (gvCons (evTup (gvCons (evC (.str "x")) (gvCons (evC (.str "y")) (gvNil)))) (gvCons (evTup (gvCons (evC (.str "y")) (gvNil))) (gvNil))))) (gvCons (evTup (gvCons (evC (.str "a")) (gvCons (evTup (gvCons (evC (.str "x")) (gvNil))) (gvCons (evC (.str "changing")) (gvNil))))) (gvNil))))) (cvNil))))) (svSeq (svIf (tst (evOp2 dNe (evCall [false,false,false] fn_piece_views [] (cvK (cvFr (evVar 8) (cvFr (evC (.str "a")) (cvNil))) (gvCons (evTup (gvCons (evC (.str "a")) (gvNil))) (gvNil)) putKw)) (evTup (gvNil)))) (svRet (evC (.bl false))) (svNext)) (svRet (evOp2 dEq (evCall [false,false,false] fn_piece_views [.non] (cvFr (evVar 8) (cvFr (evC (.str "a")) (cvNil)))) (evOp2 dTRep (evTup (gvCons (evTup (gvCons (evTup (gvCons (evC (.str "k")) (gvCons (evC (.str "l")) (gvNil)))) (gvCons (evTup (gvCons (evC (.str "x")) (gvCons (evC (.str "y")) (gvNil)))) (gvNil)))) (gvNil))) (evC (.int 2)))))))))))))
def fn_law : FnV := fnOf 8 [false] b_law
abbrev s_law : Stmt := top 71
theorem S_law : FnScope ["script", "spot", "dice", "turn", "lines", "made", "told", "due", "twice"] ["script"] (defScope s_law) := ⟨rfl, rfl, rfl, by decide +kernel, rfl, by decide +kernel, by decide +kernel⟩
theorem ok_law (T : Tx K mg cls) (M_Scene_of : CmtOk P w K mg base (Gx K cls atm) 0 "of" 7 fn_Scene_of 1) (D__law_case_right : DefOk P w K mg base (Gx K cls atm) "_law_case_right" 10 [true] fn__law_case_right []) (D__law_dice : DefOk P w K mg base (Gx K cls atm) "_law_dice" 1 [false, false] fn__law_dice []) (D_closed_piece : DefOk P w K mg base (Gx K cls atm) "closed_piece" 6 [false, false, false, false] fn_closed_piece [.non]) (D_piece_views : DefOk P w K mg base (Gx K cls atm) "piece_views" 6 [false, false, false] fn_piece_views [.non]) (N_piece_views : DkwOk P w K mg base (Gx K cls atm) "piece_views" 6 2 [false, false, false] fn_piece_views ["tables"]) {f : Addr} {fd : FuncData} (F : Fun K "law" "law" s_law f fd) : FnOk P w K mg base CX0 11 f fd ["script"] (spF (Gx K cls atm) [false] fn_law) :=
  have S := S_law
  ok_def F S rfl rfl fun cdv A outer s H E H0 M hr => by
    have hu := hr.units
    exact pss_seq (ps_svFor (ws := [1]) PassesOwn.never rfl (pi_ivRange1 rfl T.b_range (pB bt_max T.b_max (calld_max rfl) (pa_avCons (pe_evInt) (pa_avCons (pB bt_min T.b_min (calld_min rfl) (pa_avCons (pe_evInt) (pa_avCons (pB bt_len T.b_len (calld_len rfl) (pa_avCons (pN 0 rfl (Or.inl rfl)) (pa_avNil))) (pa_avNil)))) (pa_avNil))))) (pg_gtName (i := 1) S.nd rfl (Or.inl rfl) (by decide)) (pss_seq (ps_svSet (i := 2) S.nd rfl (Or.inl rfl) (pDef D__law_dice (hr.mono (by decide)) (pa_cvFr (pN 0 rfl (Or.inl rfl)) (pa_cvFr (pN 1 rfl (Or.inl rfl)) (pa_cvNil))))) (pss_last (ps_svFor (ws := [3]) PassesOwn.never rfl (pi_ivRange1 rfl T.b_range (pe_evInt)) (pg_gtName (i := 3) S.nd rfl (Or.inl rfl) (by decide)) (pss_last (ps_svIf (pt_notB (pt_ev (pDef D__law_case_right (hr.mono (by decide)) (pa_cvLn (i := 2) rfl (Or.inl rfl) (by decide +kernel) (by decide +kernel) (pa_cvNil))) (fun _ => rfl))) (pss_last (ps_svRet (pe_evBl))) (pss_none))))))) (pss_seq (ps_svSet (i := 4) S.nd rfl (Or.inl rfl) (pe_evTup (pa_gvCons (pe_evTup (pa_gvCons (pe_evStr) (pa_gvCons (pe_evTup (pa_gvCons (pe_evStr) (pa_gvNil))) (pa_gvCons (pe_evStr) (pa_gvNil))))) (pa_gvCons (pe_evTup (pa_gvCons (pe_evStr) (pa_gvCons (pe_evTup (pa_gvCons (pe_evStr) (pa_gvCons (pe_evStr) (pa_gvNil)))) (pa_gvCons (pe_evTup (pa_gvCons (pe_evStr) (pa_gvNil))) (pa_gvNil))))) (pa_gvCons (pe_evTup (pa_gvCons (pe_evStr) (pa_gvCons (pe_evTup (pa_gvCons (pe_evStr) (pa_gvCons (pe_evStr) (pa_gvNil)))) (pa_gvCons (pe_evTup (pa_gvCons (pe_evStr) (pa_gvNil))) (pa_gvNil))))) (pa_gvCons (pe_evTup (pa_gvCons (pe_evStr) (pa_gvCons (pe_evTup (pa_gvCons (pe_evStr) (pa_gvNil))) (pa_gvCons (pe_evTup (pa_gvNil)) (pa_gvNil))))) (pa_gvNil))))))) (pss_seq (ps_svSet (i := 5) S.nd rfl (Or.inl rfl) (pCmt (n := 1) M_Scene_of T.c_Scene (hr.mono (by decide)) (pa_cvFr (pe_bin (opd_add rfl) (pN 4 rfl (Or.inl rfl)) (pe_evTup (pa_gvCons (pe_evTup (pa_gvCons (pe_evStr) (pa_gvCons (pe_evTup (pa_gvCons (pe_evStr) (pa_gvCons (pe_evStr) (pa_gvNil)))) (pa_gvCons (pe_evStr) (pa_gvNil))))) (pa_gvNil)))) (pa_cvNil)))) (pss_seq (ps_svSet (i := 6) S.nd rfl (Or.inl rfl) (pe_evLst (pa_gvCons (pDef D_closed_piece (hr.mono (by decide)) (pa_cvFr (pN 5 rfl (Or.inl rfl)) (pa_cvFr (pe_evStr) (pa_cvFr (pe_evTup (pa_gvCons (pe_evStr) (pa_gvNil))) (pa_cvNil))))) (pa_gvCons (pDef D_closed_piece (hr.mono (by decide)) (pa_cvFr (pN 5 rfl (Or.inl rfl)) (pa_cvFr (pe_evTup (pa_gvCons (pe_evStr) (pa_gvNil))) (pa_cvFr (pe_evTup (pa_gvCons (pe_evStr) (pa_gvCons (pe_evStr) (pa_gvCons (pe_evStr) (pa_gvNil))))) (pa_cvNil))))) (pa_gvCons (pDef D_piece_views (hr.mono (by decide)) (pa_cvFr (pN 5 rfl (Or.inl rfl)) (pa_cvFr (pe_evStr) (pa_cvNil)))) (pa_gvNil)))))) (pss_seq (ps_svIf (pt_cmp2 (opd_ne rfl hu) (pe_evSl rfl (pN 6 rfl (Or.inl rfl)) (po_pvNo) (po_pvOf (pe_evInt))) (pe_evLst (pa_gvCons (pe_evTup (pa_gvCons (pe_evStr) (pa_gvCons (pe_evStr) (pa_gvCons (pe_evStr) (pa_gvCons (pe_evStr) (pa_gvNil)))))) (pa_gvCons (pe_evTup (pa_gvCons (pe_evStr) (pa_gvCons (pe_evStr) (pa_gvCons (pe_evStr) (pa_gvCons (pe_evStr) (pa_gvCons (pe_evStr) (pa_gvNil))))))) (pa_gvNil)))) (nomark _)) (pss_last (ps_svRet (pe_evBl))) (pss_none)) (pss_seq (ps_svSet (i := 7) S.nd rfl (Or.inl rfl) (pe_evLst (pa_gvCons (pe_evTup (pa_gvCons (pe_evTup (pa_gvCons (pe_evStr) (pa_gvCons (pe_evStr) (pa_gvCons (pe_evStr) (pa_gvCons (pe_evStr) (pa_gvNil)))))) (pa_gvCons (pe_evTup (pa_gvCons (pe_evStr) (pa_gvNil))) (pa_gvNil)))) (pa_gvCons (pe_evTup (pa_gvCons (pe_evTup (pa_gvCons (pe_evStr) (pa_gvCons (pe_evStr) (pa_gvCons (pe_evStr) (pa_gvNil))))) (pa_gvCons (pe_evTup (pa_gvCons (pe_evStr) (pa_gvCons (pe_evStr) (pa_gvNil)))) (pa_gvNil)))) (pa_gvCons (pe_evTup (pa_gvCons (pe_evTup (pa_gvCons (pe_evStr) (pa_gvCons (pe_evStr) (pa_gvNil)))) (pa_gvCons (pe_evTup (pa_gvCons (pe_evStr) (pa_gvCons (pe_evStr) (pa_gvNil)))) (pa_gvNil)))) (pa_gvNil)))))) (pss_seq (ps_svIf (pt_cmp2 (opd_ne rfl hu) (pe_index (ixd rfl hu) (pN 6 rfl (Or.inl rfl)) (pe_evInt) (fun _ _ => rfl)) (pT bt_tuple T.b_tuple (calld_tuple rfl) (pa_avCons (pe_bin (opd_add rfl) (pN 7 rfl (Or.inl rfl)) (pe_evLst (pa_gvCons (pe_evTup (pa_gvCons (pe_evTup (pa_gvCons (pe_evStr) (pa_gvNil))) (pa_gvCons (pe_evTup (pa_gvCons (pe_evStr) (pa_gvNil))) (pa_gvNil)))) (pa_gvNil)))) (pa_avNil))) (nomark _)) (pss_last (ps_svRet (pe_evBl))) (pss_none)) (pss_seq (ps_svSet (i := 8) S.nd rfl (Or.inl rfl) (pCmt (n := 1) M_Scene_of T.c_Scene (hr.mono (by decide)) (pa_cvFr (pe_evTup (pa_gvCons (pe_evTup (pa_gvCons (pe_evStr) (pa_gvCons (pe_evTup (pa_gvCons (pe_evStr) (pa_gvCons (pe_evStr) (pa_gvNil)))) (pa_gvCons (pe_evTup (pa_gvCons (pe_evStr) (pa_gvNil))) (pa_gvNil))))) (pa_gvCons (pe_evTup (pa_gvCons (pe_evStr) (pa_gvCons (pe_evTup (pa_gvCons (pe_evStr) (pa_gvCons (pe_evStr) (pa_gvNil)))) (pa_gvCons (pe_evTup (pa_gvCons (pe_evStr) (pa_gvNil))) (pa_gvNil))))) (pa_gvCons (pe_evTup (pa_gvCons (pe_evStr) (pa_gvCons (pe_evTup (pa_gvCons (pe_evStr) (pa_gvNil))) (pa_gvCons (pe_evStr) (pa_gvNil))))) (pa_gvNil))))) (pa_cvNil)))) (pss_seq (ps_svIf (pt_cmp2 (opd_ne rfl hu) (pDefK N_piece_views (hr.mono (by decide)) (pa_cvFr (pN 8 rfl (Or.inl rfl)) (pa_cvFr (pe_evStr) (pa_cvNil))) (len_cons (len_nil)) (pk_gvCons (pe_evTup (pa_gvCons (pe_evStr) (pa_gvNil))) (pk_gvNil))) (pe_evTup (pa_gvNil)) (nomark _)) (pss_last (ps_svRet (pe_evBl))) (pss_none)) (pss_last (ps_svRet (pe_cmp2 (opd_eq rfl hu) (pDef D_piece_views (hr.mono (by decide)) (pa_cvFr (pN 8 rfl (Or.inl rfl)) (pa_cvFr (pe_evStr) (pa_cvNil)))) (pe_bin (opd_trep rfl) (pe_evTup (pa_gvCons (pe_evTup (pa_gvCons (pe_evTup (pa_gvCons (pe_evStr) (pa_gvCons (pe_evStr) (pa_gvNil)))) (pa_gvCons (pe_evTup (pa_gvCons (pe_evStr) (pa_gvCons (pe_evStr) (pa_gvNil)))) (pa_gvNil)))) (pa_gvNil))) (pe_evInt)) (nomark _))))))))))))
end
end Lw
set_option Elab.async false
set_option linter.all false
set_option maxRecDepth 100000
set_option maxHeartbeats 4000000
/-! the dice of the laws -/
namespace Lw
open PySem L2 Ft
def isT : Res (Hd × List D) → Bool
  | .ok (.val (.bl true), []) => true
  | _ => false
theorem isT_ok {r : Res (Hd × List D)} (h : isT r = true) : r = .ok (.val (.bl true), []) := by
  unfold isT at h
  split at h
  · rfl
  · cases h
def Dice (d : D) : Prop := ∃ a b c : Int, d = .lst [.int a, .int b, .int c]
theorem in64_small {i : Int} (h : 0 ≤ i) (h2 : i < 18446744073709551616) : in64 i = true := by
  unfold in64
  simp only [Bool.and_eq_true, decide_eq_true_eq]
  omega
theorem roll {d : D} (hd : Dice d) {u : Int} (hu : 0 < u) (hu2 : u < 1073741824) : ∃ r d', fn__law_roll [d, .int u] = .ok (.val (.int r), [d']) ∧ Dice d' ∧ 0 ≤ r ∧ r < u := by
  obtain ⟨a, b, c, rfl⟩ := hd
  by_cases h : 0 < a
  · refine ⟨a % u, _, ?_, ⟨a / u, b, c, rfl⟩, Int.emod_nonneg _ (by omega), Int.emod_lt_of_pos _ hu⟩
    simp [fn__law_roll, fnOf_app, b__law_roll, dIx_lst, ixN, sSet, h, hu, hu2]
  · let one := (b + 961748941 * (c + 1)) % 67280421310679
    have h1 : 0 ≤ one := Int.emod_nonneg _ (by omega)
    have h2 : one < 67280421310679 := Int.emod_lt_of_pos _ (by omega)
    have i1 : in64 one = true := in64_small h1 (by omega)
    have i2 : in64 961748941 = true := rfl
    have i3 : in64 7919 = true := rfl
    refine ⟨(((one * one % 576460752303423389 * one + 7919 * (c + 1)) + b) % 2199023255579 / 128) % u, _, ?_, ⟨a, b, c + 1, rfl⟩, Int.emod_nonneg _ (by omega), Int.emod_lt_of_pos _ hu⟩
    have e : (b + 961748941 * (c + 1)) % 67280421310679 = one := rfl
    simp [fn__law_roll, fnOf_app, b__law_roll, dIx_lst, ixN, sSet, h, hu, hu2, e, i1, i2, i3]
/-- data that == looks at -/
def Plains (xs : List D) : Prop := ∀ x ∈ xs, ∃ p, D.py x = some p ∧ p.depth ≤ 50
theorem plains_pys : ∀ {xs : List D}, Plains xs → ∃ ps, D.pys xs = some ps ∧ PyData.depthAll ps ≤ 51 ∧ ps.length = xs.length
  | [], _ => ⟨[], rfl, by simp [PyData.depthAll], rfl⟩
  | x :: xs, h => by
    obtain ⟨p, e, hp⟩ := h x (List.mem_cons_self ..)
    obtain ⟨ps, e2, hp2, hl⟩ := plains_pys (xs := xs) fun y hy => h y (List.mem_cons_of_mem _ hy)
    refine ⟨p :: ps, ?_, ?_, by simp [hl]⟩
    · rw [D.pys, e, e2]
    · simp only [PyData.depthAll]; omega
theorem eqB_nil {xs : List D} (h : Plains xs) : dEqB (.lst xs) (.lst []) = some (decide (xs = [])) := by
  obtain ⟨ps, e, hp, hl⟩ := plains_pys h
  have hf : flatEnough (.list ps) = true := by
    unfold flatEnough
    simp only [PyData.depth]
    exact decide_eq_true (by omega)
  unfold dEqB
  simp only [D.py, e, Option.map_some, D.pys, hf, if_true, PyData.eqv]
  cases xs with
  | nil => cases ps with
    | nil => rfl
    | cons _ _ => simp at hl
  | cons x xs => cases ps with
    | nil => simp at hl
    | cons _ _ => simp [PyData.eqvAll]
theorem plains_ss (xs : List Str) : Plains (ss xs) := by
  intro x hx
  obtain ⟨y, _, rfl⟩ := List.mem_map.mp hx
  exact ⟨_, rfl, by simp [PyData.depth]⟩
theorem getElem_eraseIdx_perm {xs : List D} {i : Nat} (h : i < xs.length) : (xs[i] :: xs.eraseIdx i).Perm xs := by
  induction xs generalizing i with
  | nil => simp at h
  | cons x xs ih =>
    cases i with
    | zero => simp
    | succ i =>
      simp only [List.getElem_cons_succ, List.eraseIdx_cons_succ]
      exact (List.Perm.swap ..).trans ((ih (by simpa using h)).cons x)
theorem mixed0 {d x0 : D} (hd : Dice d) {xs : List D} (e0 : dList [x0] = some (.tmp (.lst xs))) (hp : Plains xs) (hl : xs.length ≤ 100000) : ∃ ys d', fn__law_mixed [d, x0] = .ok (.tmp (.lst ys), [d']) ∧ Dice d' ∧ ys.Perm xs := by
  have W := while_inv (c := (tst (evOp2 dNe (evVar 2) (evLst (gvNil))))) (body := (svExpr (evMth .lst 3 mAppend (gvCons (evMth .lst 2 mPop (gvCons (evCall [true,false] fn__law_roll [] (cvLn 0 (cvFr (evOps dLen (avCons (evVar 2) (avNil))) (cvNil)))) (gvNil))) (gvNil)))))
    (fun m ρ => ∃ d left found, Dice d ∧ left.length = m ∧ Plains left ∧ (left ++ found).Perm xs ∧ ρ = [.ln d, .sh x0, .ow (.lst left), .ow (.lst found)])
    (fun o ρ => o = .next ∧ ∃ d found, Dice d ∧ found.Perm xs ∧ ρ = [.ln d, .sh x0, .ow (.lst []), .ow (.lst found)])
    (by
      rintro m ρ ⟨d, left, found, hd, hm, hpl, hpm, rfl⟩
      cases left with
      | nil =>
        refine .inl ⟨.next, [.ln d, .sh x0, .ow (.lst []), .ow (.lst found)], ?_, rfl, rfl, d, found, hd, by simpa using hpm, rfl⟩
        simp [eqB_nil hpl]
      | cons x l =>
        have hlen : (x :: l).length ≤ 100000 := by
          have := hpm.length_eq
          simp at this ⊢
          omega
        have hlf : found.length < 100000 := by
          have := hpm.length_eq
          simp at this ⊢
          omega
        obtain ⟨r, d', er, hd', r0, r1⟩ := roll hd (u := ((x :: l).length : Int)) (by simp only [List.length_cons]; omega) (by omega)
        obtain ⟨k, rfl⟩ : ∃ k : Nat, r = k := ⟨r.toNat, by omega⟩
        have hk : k < (x :: l).length := by omega
        have hne : x :: l ≠ [] := List.cons_ne_nil _ _
        generalize x :: l = left at *
        refine .inr ⟨[.ln d, .sh x0, .ow (.lst left), .ow (.lst found)], ?_, .inl ⟨m - 1, [.ln d', .sh x0, .ow (.lst (left.eraseIdx k)), .ow (.lst (found ++ [left[k]]))], ?_, by omega, d', left.eraseIdx k, _, hd', ?_, ?_, ?_, rfl⟩⟩
        · simp [eqB_nil hpl, hne]
        · have e2 : mPop (.lst left) [.int (k : Int)] = some (.lst (left.eraseIdx k), left[k]) := by
            unfold mPop
            simp only
            rw [if_pos (by rw [Bool.and_eq_true]; exact ⟨decide_eq_true (by omega), decide_eq_true (by omega)⟩), Int.toNat_natCast, List.getElem?_eq_getElem hk, Option.map_some]
          have e3 : dLen [.lst left] = some (.val (.int (left.length : Int))) := rfl
          have e4 : mAppend (.lst found) [left[k]] = some (.lst (found ++ [left[k]]), .non) := by
            unfold mAppend
            simp only
            rw [if_pos (by omega)]
          simp -implicitDefEqProofs [Kd.is, e3, er, e2, e4]
        · rw [List.length_eraseIdx_of_lt hk]; omega
        · exact fun y hy => hpl y (List.mem_of_mem_eraseIdx hy)
        · refine List.Perm.trans ?_ hpm
          have p1 := getElem_eraseIdx_perm hk
          refine List.Perm.trans ?_ (p1.append_right found)
          refine List.Perm.trans ?_ (List.perm_append_comm (l₁ := left.eraseIdx k ++ found) (l₂ := [left[k]]))
          rw [List.append_assoc])
    xs.length 1000000 [.ln d, .sh x0, .ow (.lst xs), .ow (.lst [])] ⟨d, xs, [], hd, rfl, hp, by simp, rfl⟩ (by omega)
  obtain ⟨o, ρ', e, rfl, d', found, hd', hpm, rfl⟩ := W
  refine ⟨found, d', ?_, hd', hpm⟩
  simp -implicitDefEqProofs [fn__law_mixed, fnOf_app, b__law_mixed, e0, e]
theorem mixed {d : D} (hd : Dice d) {xs : List D} (hp : Plains xs) (hl : xs.length ≤ 100000) : ∃ ys d', fn__law_mixed [d, .lst xs] = .ok (.tmp (.lst ys), [d']) ∧ Dice d' ∧ ys.Perm xs := mixed0 hd rfl hp hl
theorem mixedT {d : D} (hd : Dice d) {xs : List D} (hp : Plains xs) (hl : xs.length ≤ 100000) : ∃ ys d', fn__law_mixed [d, .tup xs] = .ok (.tmp (.lst ys), [d']) ∧ Dice d' ∧ ys.Perm xs := mixed0 hd rfl hp hl
end Lw
set_option Elab.async false
set_option linter.all false
set_option maxRecDepth 100000
set_option maxHeartbeats 4000000
/-! drawn lists, words, doors -/
namespace Lw
open PySem L2 Ft
/-- ys: some of xs, in any order -/
def SomeOf {α : Type} (lo hi : Nat) (ys xs : List α) : Prop := ∃ zs : List α, ∃ n, zs.Perm xs ∧ ys = zs.take n ∧ min lo xs.length ≤ n ∧ n ≤ min hi xs.length
theorem SomeOf.mem {α : Type} {lo hi : Nat} {ys xs : List α} (h : SomeOf lo hi ys xs) {y : α} (hy : y ∈ ys) : y ∈ xs := by
  obtain ⟨zs, n, p, rfl, _⟩ := h
  exact p.mem_iff.mp (List.mem_of_mem_take hy)
theorem SomeOf.nodup {α : Type} {lo hi : Nat} {ys xs : List α} (h : SomeOf lo hi ys xs) (n : xs.Nodup) : ys.Nodup := by
  obtain ⟨zs, n', p, rfl, _⟩ := h
  exact (List.take_sublist _ _).nodup (p.nodup_iff.mpr n)
theorem SomeOf.len {α : Type} {lo hi : Nat} {ys xs : List α} (h : SomeOf lo hi ys xs) : min lo xs.length ≤ ys.length ∧ ys.length ≤ hi ∧ ys.length ≤ xs.length := by
  obtain ⟨zs, n, p, rfl, h1, h2⟩ := h
  rw [List.length_take, p.length_eq]
  omega
theorem perm_map {α β : Type} {f : α → β} : ∀ {ys : List β} {xs : List α}, ys.Perm (xs.map f) → ∃ zs : List α, zs.Perm xs ∧ ys = zs.map f := by
  intro ys xs h
  induction xs generalizing ys with
  | nil => exact ⟨[], .refl _, by simpa using h⟩
  | cons x xs ih =>
    rw [List.map_cons] at h
    have hm : f x ∈ ys := h.mem_iff.mpr (List.mem_cons_self ..)
    obtain ⟨a, b, rfl⟩ := List.append_of_mem hm
    have h2 : (a ++ b).Perm (xs.map f) := (List.perm_middle.symm.trans h).cons_inv
    obtain ⟨zs, hp, e⟩ := ih h2
    refine ⟨zs.take a.length ++ x :: zs.drop a.length, ?_, ?_⟩
    · refine List.perm_middle.trans ?_
      rw [List.take_append_drop]
      exact hp.cons x
    · rw [List.map_append, List.map_cons, List.map_take, List.map_drop, ← e]
      simp
theorem perm_ss {ys : List D} {xs : List Str} (h : ys.Perm (ss xs)) : ∃ zs : List Str, zs.Perm xs ∧ ys = ss zs := perm_map h
theorem sIx_ofNat (n d k : Nat) : HT.sIx n d (some (k : Int)) = min k n := HT.sIx_nat n d k
theorem cut_take {α : Type} (xs : List α) (k : Nat) : cut xs none (some (k : Int)) = xs.take k := by
  unfold cut
  rw [HT.sIx_none, HT.sIx_nat]
  simp only [List.drop_zero, Nat.sub_zero]
  rw [← List.take_eq_take_min]
theorem cut_part {α : Type} (xs : List α) (j k : Nat) : ∃ a b, cut xs (some (j : Int)) (some (k : Int)) = (xs.drop a).take b := ⟨_, _, rfl⟩
@[simp] theorem dSl_lst (ds : List D) (lo hi : Option Int) : dSl (.lst ds) lo hi = some (.tmp (.lst (cut ds lo hi))) := rfl
@[simp] theorem dSl_tup (ds : List D) (lo hi : Option Int) : dSl (.tup ds) lo hi = some (.val (.tup (cut ds lo hi))) := rfl
@[simp] theorem dLen_lst (ds : List D) : dLen [.lst ds] = some (.val (.int ds.length)) := rfl
@[simp] theorem dLen_tup (ds : List D) : dLen [.tup ds] = some (.val (.int ds.length)) := rfl
@[simp] theorem dLen_dct (ds : List (Key × D)) : dLen [.dct ds] = some (.val (.int ds.length)) := rfl
@[simp] theorem dMin_two (i j : Int) : dMin [.int i, .int j] = some (.val (.int (if j < i then j else i))) := rfl
@[simp] theorem dMax_two (i j : Int) : dMax [.int i, .int j] = some (.val (.int (if i < j then j else i))) := rfl
@[simp] theorem dTuple_lst (ds : List D) : dTuple [.lst ds] = some (.val (.tup ds)) := rfl
@[simp] theorem dTuple_tup (ds : List D) : dTuple [.tup ds] = some (.val (.tup ds)) := rfl
@[simp] theorem dList_lst (ds : List D) : dList [.lst ds] = some (.tmp (.lst ds)) := rfl
@[simp] theorem dList_tup (ds : List D) : dList [.tup ds] = some (.tmp (.lst ds)) := rfl
theorem min_nat (i j : Nat) : (if j < i then (j : Int) else (i : Int)) = ((min i j : Nat) : Int) := by
  split <;> omega
theorem some0 {d x0 : D} (hd : Dice d) {xs : List D} (e0 : dLen [x0] = some (.val (.int xs.length))) (em : dList [x0] = some (.tmp (.lst xs))) (hp : Plains xs) (hl : xs.length ≤ 100000) {lo hi : Nat} (hlh : lo ≤ hi) : ∃ ys d', fn__law_some [d, x0, .int (lo : Int), .int (hi : Int)] = .ok (.tmp (.lst ys), [d']) ∧ Dice d' ∧ SomeOf lo hi ys xs := by
  obtain ⟨zs, d1, e1, hd1, hp1⟩ := mixed0 hd em hp hl
  obtain ⟨r, d2, e2, hd2, r0, r1⟩ := roll hd1 (u := ((min hi xs.length : Nat) : Int) - ((min lo xs.length : Nat) : Int) + 1) (by omega) (by omega)
  obtain ⟨k, rfl⟩ : ∃ k : Nat, r = k := ⟨r.toNat, by omega⟩
  refine ⟨zs.take (min lo xs.length + k), d2, ?_, hd2, zs, _, hp1, rfl, by omega, by omega⟩
  have ec : cut zs none (some (((min lo xs.length : Nat) : Int) + (k : Int))) = zs.take (min lo xs.length + k) := by
    rw [← Int.natCast_add, cut_take]
  simp -implicitDefEqProofs [min_nat, fn__law_some, fnOf_app, b__law_some, e0, e1, e2, ec]
theorem some1 {d x0 : D} (hd : Dice d) {xs : List Str} (e0 : dLen [x0] = some (.val (.int xs.length))) (em : dList [x0] = some (.tmp (.lst (ss xs)))) (hl : xs.length ≤ 100000) {lo hi : Nat} (hlh : lo ≤ hi) : ∃ ys d', fn__law_some [d, x0, .int (lo : Int), .int (hi : Int)] = .ok (.tmp (.lst (ss ys)), [d']) ∧ Dice d' ∧ SomeOf lo hi ys xs := by
  obtain ⟨ys, d', e, hd', zs, n, p, rfl, h1, h2⟩ := some0 hd (by simpa using e0) em (plains_ss xs) (by simpa using hl) hlh
  obtain ⟨ws, pw, rfl⟩ := perm_ss p
  refine ⟨ws.take n, d', by rw [e]; exact congrArg (fun z => Res.ok (Hd.tmp (D.lst z), [d'])) (List.map_take (f := D.str)).symm, hd', ws, n, pw, rfl, by simpa using h1, by simpa using h2⟩
theorem some_s {d : D} (hd : Dice d) {xs : List Str} (hl : xs.length ≤ 100000) {lo hi : Nat} (hlh : lo ≤ hi) : ∃ ys d', fn__law_some [d, .lst (ss xs), .int (lo : Int), .int (hi : Int)] = .ok (.tmp (.lst (ss ys)), [d']) ∧ Dice d' ∧ SomeOf lo hi ys xs := some1 hd (by simp) rfl hl hlh
theorem some_t {d : D} (hd : Dice d) {xs : List Str} (hl : xs.length ≤ 100000) {lo hi : Nat} (hlh : lo ≤ hi) : ∃ ys d', fn__law_some [d, .tup (ss xs), .int (lo : Int), .int (hi : Int)] = .ok (.tmp (.lst (ss ys)), [d']) ∧ Dice d' ∧ SomeOf lo hi ys xs := some1 hd (by simp) rfl hl hlh
def wordsT : List Str := ["a", "aa", "ab", "b", "ba", "changing", "door", "key", "r", "s", "self", "who", "x", "zzzzzzzz"]
theorem words_nodup : wordsT.Nodup := by decide +kernel
theorem words {d : D} (hd : Dice d) {k : Nat} (h1 : 1 ≤ k) (h2 : k ≤ 14) : ∃ ys d', fn__law_words [d, .int (k : Int)] = .ok (.tmp (.lst (ss ys)), [d']) ∧ Dice d' ∧ SomeOf k k ys wordsT := by
  obtain ⟨zs, d', e, hd', p⟩ := mixed hd (plains_ss wordsT) (by decide)
  obtain ⟨ws, pw, rfl⟩ := perm_ss p
  refine ⟨ws.take k, d', ?_, hd', ws, k, pw, rfl, by show min k 14 ≤ k; omega, by show k ≤ min k 14; omega⟩
  have ec : cut ws none (some (k : Int)) = ws.take k := cut_take ..
  have e2 : fn__law_mixed [d, .lst [.str "a", .str "aa", .str "ab", .str "b", .str "ba", .str "changing", .str "door", .str "key", .str "r", .str "s", .str "self", .str "who", .str "x", .str "zzzzzzzz"]] = _ := e
  simp -implicitDefEqProofs [fn__law_words, fnOf_app, b__law_words, e2, ec]
/-- what a table's line says of the table: it changes, it is fixed, it is fixed with a key -/
inductive Kin where
  | chg | fix | key (ks : List Str)
def Kin.d : Kin → D
  | .chg => .str "changing"
  | .fix => .non
  | .key ks => .tup (ss ks)
def Kin.ok (cols : List Str) : Kin → Prop
  | .key ks => Asc ks ∧ (∀ k ∈ ks, k ∈ cols) ∧ ks.length ≤ 3
  | _ => True
theorem kind {d : D} (hd : Dice d) {cols : List Str} (hn : cols.Nodup) (hl : cols.length ≤ 100) {u : Int} (h0 : 0 < u) (h1 : u < 100) : ∃ (y : Kin) (d' : D), fn__law_kind [d, .tup (ss cols), .int u] = .ok (.val y.d, [d']) ∧ Dice d' ∧ y.ok cols := by
  obtain ⟨r, d1, e1, hd1, _, _⟩ := roll hd h0 (by omega)
  by_cases hr : 0 < r
  · refine ⟨.chg, d1, ?_, hd1, trivial⟩
    simp -implicitDefEqProofs [fn__law_kind, fnOf_app, b__law_kind, e1, hr, Kin.d]
  · obtain ⟨r2, d2, e2, hd2, _, _⟩ := roll hd1 (u := 2) (by omega) (by omega)
    by_cases hr2 : r2 = 0
    · subst hr2
      refine ⟨.fix, d2, ?_, hd2, trivial⟩
      simp -implicitDefEqProofs [fn__law_kind, fnOf_app, b__law_kind, e1, hr, e2, Kin.d, dEqB, flatEnough, PyData.eqv, PyData.depth]
    · obtain ⟨ys, d3, e3, hd3, hs⟩ := some_t hd2 (xs := cols) (by omega) (lo := 0) (hi := 3) (by omega)
      have e3 : fn__law_some [d2, .tup (ss cols), .int 0, .int 3] = _ := e3
      refine ⟨.key (sortS ys), d3, ?_, hd3, sortS_asc (hs.nodup hn), fun k hk => hs.mem (mem_sortS.mp hk), by rw [sortS_length]; exact hs.len.2.1⟩
      simp -implicitDefEqProofs [fn__law_kind, fnOf_app, b__law_kind, e1, hr, e2, e3, hr2, Kin.d, dEqB, flatEnough, PyData.eqv, PyData.depth]
end Lw
set_option Elab.async false
set_option linter.all false
set_option maxRecDepth 100000
set_option maxHeartbeats 4000000
/-! drawn scenes, as the laws know them -/
namespace Lw
open PySem L2 Ft
structure Row where
  nm : Str
  cols : List Str
  kin : Kin
def Row.pair (r : Row) : D := .tup [.tup (ss r.cols), r.kin.d]
def Row.kv (r : Row) : Key × D := (.inr r.nm, r.pair)
def rowsD (rows : List Row) : D := .dct (rows.map Row.kv)
structure Row.Good (pool : List Str) (r : Row) : Prop where
  word : r.nm ∈ wordsT
  asc : Asc r.cols
  sub : ∀ c ∈ r.cols, c ∈ pool
  few : r.cols.length ≤ 3
  kin : r.kin.ok r.cols
structure Rows (pool : List Str) (most : Nat) (rows : List Row) : Prop where
  asc : Asc (rows.map Row.nm)
  good : ∀ r ∈ rows, r.Good pool
  one : 1 ≤ rows.length
  few : rows.length ≤ most
def Slot.soft (s : Slot) : Prop := ∀ d, s ≠ .ln d
theorem soft_no : Slot.soft .no := fun _ e => nomatch e
theorem soft_sh (d : D) : Slot.soft (.sh d) := fun _ e => nomatch e
theorem soft_ow (d : D) : Slot.soft (.ow d) := fun _ e => nomatch e
theorem soft_free {s : Slot} (h : Slot.free s) : Slot.soft s := by
  rcases h with rfl | ⟨d, rfl⟩
  · exact soft_no
  · exact soft_sh _
theorem storeAt_soft {ρ : Rho} {i : Nat} {s t : Slot} (h : Slot.soft t) : storeAt ρ i s (some t) = some (ρ.set i s) := by
  cases t with
  | ln d => exact absurd rfl (h d)
  | _ => rfl
theorem atK_mem {κ : Type} [DecidableEq κ] : ∀ {kvs : List (κ × D)} {k : κ} {v : D}, (kvs.map (·.1)).Nodup → (k, v) ∈ kvs → atK kvs k = some v
  | [], _, _, _, h => by cases h
  | (k0, v0) :: kvs, k, v, n, h => by
    unfold atK
    rw [List.find?_cons]
    rw [List.map_cons, List.nodup_cons] at n
    rcases List.mem_cons.mp h with e | h
    · cases e; simp
    · have ne : k0 ≠ k := fun e => n.1 (List.mem_map.mpr ⟨(k, v), h, e.symm⟩)
      simp only [ne, decide_false]
      exact atK_mem n.2 h
theorem atK_none {κ : Type} [DecidableEq κ] {kvs : List (κ × D)} {k : κ} (h : k ∉ kvs.map (·.1)) : atK kvs k = none := by
  unfold atK
  rw [Option.map_eq_none_iff, List.find?_eq_none]
  intro p hp e
  exact h (List.mem_map.mpr ⟨p, hp, of_decide_eq_true e⟩)
theorem atK_isSome {κ : Type} [DecidableEq κ] {kvs : List (κ × D)} {k : κ} : (atK kvs k).isSome = decide (k ∈ kvs.map (·.1)) := by
  unfold atK
  rw [Option.isSome_map, Bool.eq_iff_iff, List.find?_isSome, decide_eq_true_eq]
  simp only [List.mem_map, decide_eq_true_eq]
theorem merge_new {kvs : List (Key × D)} (n : (kvs.map (·.1)).Nodup) : mergeD [] kvs = kvs := by
  unfold mergeD
  rw [fold_new (fun kv : Key × D => kv) kvs [] (by simpa using n)]
  simp
theorem pairs_some {α : Type} (k : α → Key) (v : α → D) : ∀ xs : List α, pairsD (xs.map fun x => .tup [kD (k x), v x]) = some (xs.map fun x => (k x, v x))
  | [] => rfl
  | x :: xs => by
    rw [List.map_cons, pairsD, dKey_kD, pairs_some k v xs]
    rfl
theorem enumD_ss (ws : List Str) : enumD (ss ws) = ws.zipIdx.map fun p => .tup [.int (p.2 : Int), .str p.1] := by
  unfold enumD
  rw [ss_eq, List.zipIdx_map, List.map_map]
  rfl
theorem nodup_inj {α β : Type} {f : α → β} (hf : ∀ a b, f a = f b → a = b) {xs : List α} (h : xs.Nodup) : (xs.map f).Nodup := List.pairwise_map.mpr (List.Pairwise.imp (fun ne e => ne (hf _ _ e)) h)
theorem map_pair_inj {rows : List Row} (n : (rows.map Row.nm).Nodup) : ((rows.map Row.kv).map (·.1)).Nodup := by
  rw [List.map_map]
  have : (rows.map ((·.1) ∘ Row.kv)) = (rows.map Row.nm).map Sum.inr := by rw [List.map_map]; rfl
  rw [this]
  exact nodup_inj (fun a b e => Sum.inr.inj e) n
theorem dIx_row {rows : List Row} (n : (rows.map Row.nm).Nodup) {r : Row} (h : r ∈ rows) : dIx (rowsD rows) (.str r.nm) = some (.val r.pair) := by
  unfold rowsD
  rw [dIx_dct, dKey_str, Option.bind_some, atK_mem (map_pair_inj n) (List.mem_map.mpr ⟨r, h, rfl⟩)]
  rfl
theorem taken {k : Nat} (r : Int) (h : 0 ≤ r) : ∃ n : Nat, r = n := ⟨r.toNat, by omega⟩
/-- one table's columns -/
theorem drawn_cols {pool : List Str} (pn : pool.Nodup) {xs : List Str} (h1 : ∀ x ∈ xs, x ∈ pool) (h2 : xs.length ≤ 3) : Asc (sortS (dedup xs)) ∧ (∀ c ∈ sortS (dedup xs), c ∈ pool) ∧ (sortS (dedup xs)).length ≤ 3 :=
  ⟨sortS_asc (dedup_nodup _), fun c hc => h1 c (mem_dedup.mp (mem_sortS.mp hc)), by rw [sortS_length]; have := dedup_len xs; omega⟩
def sceneTail : SV := (svSeq (svSet 11 (evOps dTuple (avCons (evSortSet (evVar 10)) (avNil)))) (svSub 7 (evVar 9) (evTup (gvCons (evVar 11) (gvCons (evCall [true,false,false] fn__law_kind [] (cvLn 0 (cvFr (evVar 11) (cvFr (evVar 3) (cvNil))))) (gvNil))))))
def sceneBody : SV := (svSeq (svSet 10 (evCall [true,false,false,false] fn__law_some [] (cvLn 0 (cvFr (evVar 5) (cvFr (evC (.int 0)) (cvFr (evC (.int 3)) (cvNil))))))) (svSeq (svIf (tst (evOp2 dEq (evVar 6) (evC (.int 1)))) (svSet 10 (evOp2 dAdd (evSl (evVar 5) (pvOf (evVar 8)) (pvOf (evOp2 dAdd (evVar 8) (evC (.int 2))))) (evSl (evVar 10) (pvNo) (pvOf (evCall [true,false] fn__law_roll [] (cvLn 0 (cvFr (evC (.int 2)) (cvNil)))))))) (svNext)) (svSeq (svIf (tst (evOp2 dEq (evVar 6) (evC (.int 2)))) (svSet 10 (evOp2 dAdd (evSl (evVar 5) (pvNo) (pvOf (evC (.int 1)))) (evSl (evVar 10) (pvNo) (pvOf (evC (.int 2)))))) (svNext)) sceneTail)))
@[simp] theorem dEqB_int (i j : Int) : dEqB (.int i) (.int j) = some (decide (i = j)) := by
  unfold dEqB
  simp [flatEnough, PyData.depth, PyData.eqv, eq_comm]
  by_cases h : i = j <;> simp [h]
@[simp] theorem dAdd_lst (a b : List D) : dAdd (.lst a) (.lst b) = if a.length + b.length ≤ 1000000 then some (.tmp (.lst (a ++ b))) else none := rfl
/-- the last part of a turn -/
theorem scene_turn {pool : List Str} (pn : pool.Nodup) (pl : pool.length ≤ 14) {d mt mc : D} {names sp : Slot} {still way : Int} {rows : List Row} {s8 s9 s10 s11 : Slot} {at_ : Nat} {name : Str} (hd : Dice d) (h0 : 0 < still) (h1 : still < 100) (hw : name ∈ wordsT) (hnew : name ∉ rows.map Row.nm) (hl : rows.length < 1000)
    (f8 : Slot.soft s8) (f9 : Slot.soft s9) (f10 : Slot.soft s10) (f11 : Slot.soft s11) (fp : sp = .ow (.lst (ss pool)) ∨ sp = .sh (.lst (ss pool))) :
    ∃ ρ2, turn (gtTup 2 (gtCons (gtName 8) (gtCons (gtName 9) (gtNil)))) sceneBody (.tup [.int (at_ : Int), .str name]) [.ln d, mt |> Slot.sh, mc |> Slot.sh, .sh (.int still), names, sp, .sh (.int way), .ow (rowsD rows), s8, s9, s10, s11] = .ok (.next, ρ2) ∧
      ∃ d' row s10, Dice d' ∧ Row.Good pool row ∧ row.nm = name ∧ Slot.soft s10 ∧ ρ2 = [.ln d', mt |> Slot.sh, mc |> Slot.sh, .sh (.int still), names, .sh (.lst (ss pool)), .sh (.int way), .ow (rowsD (rows ++ [row])), .sh (.int (at_ : Int)), .sh (.str name), s10, .sh (.tup (ss row.cols))] := by
  obtain ⟨ys, d1, e1, hd1, hs⟩ := some_s hd (xs := pool) (by omega) (lo := 0) (hi := 3) (by omega)
  have e1 : fn__law_some [d, .lst (ss pool), .int 0, .int 3] = _ := e1
  have key : ∀ (xs : List Str) (d2 : D), Dice d2 → (∀ x ∈ xs, x ∈ pool) → xs.length ≤ 3 → ∃ (row : Row) (d3 : D), fn__law_kind [d2, .tup (ss (sortS (dedup xs))), .int still] = .ok (.val row.kin.d, [d3]) ∧ Dice d3 ∧ Row.Good pool row ∧ row.nm = name ∧ row.cols = sortS (dedup xs) ∧ sSet (rowsD rows) (.str name) (.tup [.tup (ss (sortS (dedup xs))), row.kin.d]) = some (rowsD (rows ++ [row])) := by
    intro xs d2 hd2 hx hx3
    obtain ⟨c1, c2, c3⟩ := drawn_cols pn hx hx3
    obtain ⟨y, d3, e3, hd3, hy⟩ := kind hd2 (asc_nodup c1) (by omega) h0 h1
    refine ⟨⟨name, sortS (dedup xs), y⟩, d3, e3, hd3, ⟨hw, c1, c2, c3, hy⟩, rfl, rfl, ?_⟩
    unfold sSet rowsD
    simp only [dKey_str, Option.bind_some, List.length_map]
    rw [if_pos (by omega), put_new]
    · rw [List.map_append]; rfl
    · intro z
      refine hnew ?_
      rw [List.map_map] at z
      obtain ⟨r, hr, er⟩ := List.mem_map.mp z
      exact List.mem_map.mpr ⟨r, hr, Sum.inr.inj er⟩
  have tail : ∀ (xs : List Str) (d2 : D), Dice d2 → (∀ x ∈ xs, x ∈ pool) → xs.length ≤ 3 → ∃ ρ2, sceneTail [.ln d2, mt |> Slot.sh, mc |> Slot.sh, .sh (.int still), names, .sh (.lst (ss pool)), .sh (.int way), .ow (rowsD rows), .sh (.int (at_ : Int)), .sh (.str name), .ow (.lst (ss xs)), s11] = .ok (.next, ρ2) ∧
      ∃ d' row s10, Dice d' ∧ Row.Good pool row ∧ row.nm = name ∧ Slot.soft s10 ∧ ρ2 = [.ln d', mt |> Slot.sh, mc |> Slot.sh, .sh (.int still), names, .sh (.lst (ss pool)), .sh (.int way), .ow (rowsD (rows ++ [row])), .sh (.int (at_ : Int)), .sh (.str name), s10, .sh (.tup (ss row.cols))] := by
    intro xs d2 hd2 hx hx3
    obtain ⟨row, d3, e3, hd3, g, en, ecols, es⟩ := key xs d2 hd2 hx hx3
    refine ⟨_, ?_, d3, row, .ow (.lst (ss xs)), hd3, g, en, soft_ow _, rfl⟩
    rw [ecols]
    have hx4 : xs.length ≤ 4000 := by omega
    simp -implicitDefEqProofs [sceneTail, storeAt_soft, f11, e3, es, hx4]
  by_cases w1 : way = 1
  · subst w1
    obtain ⟨r, d2, e2, hd2, r0, r1⟩ := roll hd1 (u := 2) (by omega) (by omega)
    obtain ⟨n, rfl⟩ : ∃ n : Nat, r = n := ⟨r.toNat, by omega⟩
    have ec : cut ys none (some (n : Int)) = ys.take n := cut_take ..
    obtain ⟨a, b, eb, hb⟩ : ∃ a b, cut pool (some (at_ : Int)) (some ((at_ : Int) + 2)) = (pool.drop a).take b ∧ b ≤ 2 := by
      refine ⟨HT.sIx pool.length 0 (some (at_ : Int)), HT.sIx pool.length pool.length (some ((at_ : Int) + 2)) - HT.sIx pool.length 0 (some (at_ : Int)), rfl, ?_⟩
      rw [show (at_ : Int) + 2 = ((at_ + 2 : Nat) : Int) by omega, HT.sIx_nat, HT.sIx_nat]
      omega
    have hlen3 : ((pool.drop a).take b ++ ys.take n).length ≤ 3 := by
      rw [List.length_append, List.length_take, List.length_take]; omega
    obtain ⟨ρ2, et, rest⟩ := tail ((pool.drop a).take b ++ ys.take n) d2 hd2 (fun x hx => by
      rcases List.mem_append.mp hx with h | h
      · exact List.mem_of_mem_drop (List.mem_of_mem_take h)
      · exact hs.mem (List.mem_of_mem_take h)) hlen3
    have hlen : ((pool.drop a).take b).length + (ys.take n).length ≤ 1000000 := by rw [← List.length_append]; omega
    refine ⟨ρ2, ?_, rest⟩
    rw [← et]
    generalize (pool.drop a).take b = pa at *
    generalize ys.take n = pb at *
    rcases fp with rfl | rfl <;> simp -implicitDefEqProofs [turn, sceneBody, storeAt_soft, f8, f9, f10, f11, e1, e2, ec, eb, hlen]
  · by_cases w2 : way = 2
    · subst w2
      have ec : cut ys none (some 2) = ys.take 2 := cut_take ys 2
      have ed : cut pool none (some 1) = pool.take 1 := cut_take pool 1
      have hlen3 : (pool.take 1 ++ ys.take 2).length ≤ 3 := by
        rw [List.length_append, List.length_take, List.length_take]; omega
      obtain ⟨ρ2, et, rest⟩ := tail (pool.take 1 ++ ys.take 2) d1 hd1 (fun x hx => by
        rcases List.mem_append.mp hx with h | h
        · exact List.mem_of_mem_take h
        · exact hs.mem (List.mem_of_mem_take h)) hlen3
      have hlen : (pool.take 1).length + (ys.take 2).length ≤ 1000000 := by rw [← List.length_append]; omega
      refine ⟨ρ2, ?_, rest⟩
      rw [← et]
      generalize pool.take 1 = pa at *
      generalize ys.take 2 = pb at *
      rcases fp with rfl | rfl <;> simp -implicitDefEqProofs [turn, sceneBody, storeAt_soft, f8, f9, f10, f11, e1, ec, ed, hlen]
    · obtain ⟨ρ2, et, rest⟩ := tail ys d1 hd1 (fun x hx => hs.mem hx) hs.len.2.1
      refine ⟨ρ2, ?_, rest⟩
      rw [← et]
      rcases fp with rfl | rfl <;> simp -implicitDefEqProofs [turn, sceneBody, storeAt_soft, f8, f9, f10, f11, e1, w1, w2]
end Lw
set_option Elab.async false
set_option linter.all false
set_option maxRecDepth 100000
set_option maxHeartbeats 4000000
/-! drawn scenes -/
namespace Lw
open PySem L2 Ft
@[simp] theorem items_rows (rows : List Row) : itemsOf (rowsD rows) = some (ss (rows.map Row.nm)) := by
  show some _ = _
  rw [List.map_map, ss_eq, List.map_map]
  rfl
theorem mem_words {ys : List Str} {k : Nat} (h : SomeOf k k ys wordsT) : ∀ y ∈ ys, y ∈ wordsT := fun y hy => h.mem hy
theorem scene {d : D} (hd : Dice d) {mt mc : Nat} {still : Int} (h1 : 1 ≤ mt) (h2 : mt ≤ 12) (h3 : 1 ≤ mc) (h4 : mc ≤ 12) (h5 : 0 < still) (h6 : still < 100) :
    ∃ rows pool d', fn__law_scene [d, .int (mt : Int), .int (mc : Int), .int still] = .ok (.tmp (rowsD rows), [d']) ∧ Dice d' ∧ Rows pool mt rows ∧ pool.Nodup ∧ (∀ c ∈ pool, c ∈ wordsT) ∧ pool.length ≤ mc := by
  obtain ⟨r1, d1, e1, hd1, a1, b1⟩ := roll hd (u := (mt : Int)) (by omega) (by omega)
  obtain ⟨n1, rfl⟩ : ∃ n : Nat, r1 = n := ⟨r1.toNat, by omega⟩
  obtain ⟨ws, d2, e2, hd2, s2⟩ := words hd1 (k := 1 + n1) (by omega) (by omega)
  obtain ⟨r3, d3, e3, hd3, a3, b3⟩ := roll hd2 (u := (mc : Int)) (by omega) (by omega)
  obtain ⟨n3, rfl⟩ : ∃ n : Nat, r3 = n := ⟨r3.toNat, by omega⟩
  obtain ⟨pool, d4, e4, hd4, s4⟩ := words hd3 (k := 1 + n3) (by omega) (by omega)
  obtain ⟨way, d5, e5, hd5, a5, b5⟩ := roll hd4 (u := 4) (by omega) (by omega)
  have wn := s2.nodup words_nodup
  have pn := s4.nodup words_nodup
  have wl := s2.len
  have pl := s4.len
  have hwl : wordsT.length = 14 := rfl
  rw [hwl] at wl pl
  obtain ⟨zs, d6, e6, hd6, p6⟩ := mixed hd5 (plains_ss (sortS ws)) (by rw [ss_len, sortS_length]; omega)
  obtain ⟨vs, pv, rfl⟩ := perm_ss p6
  have pv2 : vs.Perm ws := pv.trans (sortS_perm ws)
  have vn : vs.Nodup := pv2.nodup_iff.mpr wn
  have vw : ∀ v ∈ vs, v ∈ wordsT := fun v hv => s2.mem (pv2.mem_iff.mp hv)
  have vl : vs.length ≤ 14 := by rw [pv2.length_eq]; omega
  have e2' : fn__law_words [d1, .int (1 + (n1 : Int))] = .ok (.tmp (.lst (ss ws)), [d2]) := by
    rw [show (1 : Int) + (n1 : Int) = ((1 + n1 : Nat) : Int) by omega]
    exact e2
  have e4' : fn__law_words [d3, .int (1 + (n3 : Int))] = .ok (.tmp (.lst (ss pool)), [d4]) := by
    rw [show (1 : Int) + (n3 : Int) = ((1 + n3 : Nat) : Int) by omega]
    exact e4
  -- the loop
  let st : D → Slot → List Row → Slot → Slot → Slot → Slot → Rho := fun d sp rows s8 s9 s10 s11 =>
    [.ln d, .sh (.int (mt : Int)), .sh (.int (mc : Int)), .sh (.int still), .sh (.lst (ss (sortS ws))), sp, .sh (.int way), .ow (rowsD rows), s8, s9, s10, s11]
  obtain ⟨ρ', el, dl, spl, rows, q8, q9, q10, q11, hdl, hspl, hnm, hgood, g8, g9, g10, g11, rfl⟩ := for_inv (g := (gtTup 2 (gtCons (gtName 8) (gtCons (gtName 9) (gtNil))))) (body := sceneBody) (em := fun p : Str × Nat => D.tup [.int (p.2 : Int), .str p.1])
    (fun dn ρ => ∃ d sp rows s8 s9 s10 s11, Dice d ∧ (sp = .ow (.lst (ss pool)) ∨ sp = .sh (.lst (ss pool))) ∧ rows.map Row.nm = dn.map (·.1) ∧ (∀ r ∈ rows, r.Good pool) ∧ Slot.soft s8 ∧ Slot.free s9 ∧ Slot.soft s10 ∧ Slot.soft s11 ∧ ρ = st d sp rows s8 s9 s10 s11)
    vs.zipIdx [] (st d6 (.ow (.lst (ss pool))) [] .no .no .no .no) ⟨d6, _, [], .no, .no, .no, .no, hd6, .inl rfl, rfl, by simp, soft_no, free_no, soft_no, soft_no, rfl⟩ (by
      rintro dn ⟨v, at_⟩ rest ρ hq ⟨d, sp, rows, s8, s9, s10, s11, hd, hsp, hnm, hg, g8, g9, g10, g11, rfl⟩
      rw [List.nil_append] at hq
      have hv : vs = dn.map (·.1) ++ v :: rest.map (·.1) := by
        have := congrArg (List.map (·.1)) hq
        rw [List.zipIdx_map_fst] at this
        simpa using this
      have hnew : v ∉ rows.map Row.nm := by
        rw [hnm]
        rw [hv, List.nodup_append] at vn
        exact fun z => vn.2.2 v z v (List.mem_cons_self ..) rfl
      have hl : rows.length < 1000 := by
        have h1 := congrArg List.length hnm
        have h2 := congrArg List.length hv
        simp at h1 h2
        omega
      obtain ⟨ρ2, et, d', row, s10', hd', hr, en, q10, rfl⟩ := scene_turn (pool := pool) pn (by omega) (d := d) (mt := .int (mt : Int)) (mc := .int (mc : Int)) (names := .sh (.lst (ss (sortS ws)))) (sp := sp) (still := still) (way := way) (rows := rows) (s8 := s8) (s9 := s9) (s10 := s10) (s11 := s11) (at_ := at_) (name := v) hd h5 h6 (vw v (by rw [hv]; simp)) hnew hl g8 (soft_free g9) g10 g11 hsp
      refine ⟨_, et, d', _, rows ++ [row], _, _, s10', _, hd', .inr rfl, ?_, ?_, soft_sh _, free_sh _, q10, soft_sh _, rfl⟩
      · rw [List.map_append, List.map_append, hnm]
        simp [en]
      · intro r hr2
        rcases List.mem_append.mp hr2 with h | h
        · exact hg r h
        · rw [List.mem_singleton.mp h]; exact hr)
  rw [List.nil_append, List.zipIdx_map_fst] at hnm
  -- the rows in the order of their names
  have hperm : (sortS ws).Perm (rows.map Row.nm) := by rw [hnm]; exact pv.symm
  obtain ⟨out, po, eo⟩ := perm_map hperm
  have rn : (rows.map Row.nm).Nodup := by rw [hnm]; exact vn
  have hlc : lcLoop (gtName 9) bvYes (evTup (gvCons (evVar 9) (gvCons (evOp2 dIx (evVar 7) (evVar 9)) (gvNil)))) [9] (ss (sortS ws)) (st dl spl rows q8 .no q10 q11) = .ok (out.map (fun r => .tup [.str r.nm, r.pair]), st dl spl rows q8 .no q10 q11) := by
    rw [eo]
    refine (congrArg (fun z => lcLoop _ _ _ _ z _) (by rw [ss_eq, List.map_map]; rfl)).trans (lc_map (em := fun r : Row => D.str r.nm) (fun r : Row => .tup [.str r.nm, r.pair]) out fun r hr => ?_)
    have hx := dIx_row rn (po.mem_iff.mp hr)
    simp -implicitDefEqProofs [lcStep, st, hx]
  refine ⟨out, pool, dl, ?_, hdl, ⟨?_, fun r hr => hgood r (po.mem_iff.mp hr), ?_, ?_⟩, pn, fun c hc => s4.mem hc, by omega⟩
  · have hd : dDict [.lst (out.map (fun r => .tup [.str r.nm, r.pair]))] = some (.tmp (rowsD out)) := by
      show Option.map _ (pairsD _) = _
      have := pairs_some (fun r : Row => (Sum.inr r.nm : Key)) Row.pair out
      rw [show (out.map fun r : Row => D.tup [kD (Sum.inr r.nm), r.pair]) = out.map (fun r => .tup [.str r.nm, r.pair]) from rfl] at this
      rw [this, Option.map_some, merge_new]
      · rfl
      · have := map_pair_inj (rows := out) (by rw [← eo]; exact sortS_nodup wn)
        exact this
    have hsort : (sortS ws).length ≤ 1000000 := by rw [sortS_length]; omega
    have wl2 : ws.length ≤ 1000000 := by omega
    have i9 : idleAt (some q9) = true := idleAt_free g9
    have el2 : forLoop (gtTup 2 (gtCons (gtName 8) (gtCons (gtName 9) (gtNil)))) sceneBody (enumD (ss vs)) (st d6 (.ow (.lst (ss pool))) [] .no .no .no .no) = .ok (.next, st dl spl rows q8 q9 q10 q11) := by
      rw [enumD_ss]; exact el
    have hro : rowsD [] = .dct [] := rfl
    have hd9 : idleAt (some q9) = true := idleAt_free g9
    simp only [st, sceneBody, sceneTail, hro] at el2 hlc
    simp -implicitDefEqProofs [fn__law_scene, fnOf_app, b__law_scene, e1, e2', e3, e4', e5, e6, el2, hlc, hd, wl2, hd9]
  · rw [← eo]; exact sortS_asc wn
  · have := po.length_eq; have h := congrArg List.length hnm; have := pv2.length_eq; simp at h; omega
  · have := po.length_eq; have h := congrArg List.length hnm; have := pv2.length_eq; simp at h; omega
end Lw
set_option Elab.async false
set_option linter.all false
set_option maxRecDepth 100000
set_option maxHeartbeats 4000000
/-! scenes made -/
namespace Lw
open PySem L2 Ft
def IsName (x : Str) : Prop := fn_is_name [.str x] = .ok (.val (.bl true), [])
theorem words_names : ∀ x ∈ wordsT, IsName x := fun x hx => isT_ok (by
  have h : ∀ x ∈ wordsT, isT (fn_is_name [.str x]) = true := by decide +kernel
  exact h x hx)
@[simp] theorem dAll_yes {α : Type} (xs : List α) : dAll [.lst (xs.map fun _ => D.bl true)] = some (.val (.bl true)) := by
  have h : ∀ ys : List α, D.bls (ys.map fun _ => D.bl true) = some (ys.map fun _ => true) := by
    intro ys
    induction ys with
    | nil => rfl
    | cons y ys ih => rw [List.map_cons, D.bls, ih]; rfl
  show Option.map _ (D.bls _) = _
  rw [h]
  simp
theorem dAll_map {α : Type} (p : α → Bool) (xs : List α) : dAll [.lst (xs.map fun x => D.bl (p x))] = some (.val (.bl (xs.all p))) := by
  have h : ∀ ys : List α, D.bls (ys.map fun x => D.bl (p x)) = some (ys.map p) := by
    intro ys
    induction ys with
    | nil => rfl
    | cons y ys ih => rw [List.map_cons, D.bls, ih]; rfl
  show Option.map _ (D.bls _) = _
  rw [h]
  simp [Function.comp_def]
theorem dAny_map {α : Type} (p : α → Bool) (xs : List α) : dAny [.lst (xs.map fun x => D.bl (p x))] = some (.val (.bl (xs.any p))) := by
  have h : ∀ ys : List α, D.bls (ys.map fun x => D.bl (p x)) = some (ys.map p) := by
    intro ys
    induction ys with
    | nil => rfl
    | cons y ys ih => rw [List.map_cons, D.bls, ih]; rfl
  show Option.map _ (D.bls _) = _
  rw [h]
  simp [Function.comp_def]
@[simp] theorem isB_tup (ds : List D) : isB "tuple" (.tup ds) = some true := by
  show kitB "tuple" "tuple" = some true
  decide +kernel
@[simp] theorem isB_str (x : Str) : isB "str" (.str x) = some true := by
  show kitB "str" "str" = some true
  decide +kernel
@[simp] theorem isB_dct (x : List (Key × D)) : isB "dict" (.dct x) = some true := by
  show kitB "dict" "dict" = some true
  decide +kernel
@[simp] theorem isB_tup_str (x : Str) : isB "tuple" (.str x) = some false := by
  show kitB "str" "tuple" = some false
  decide +kernel
@[simp] theorem isB_tup_non : isB "tuple" .non = some false := by
  show kitB "NoneType" "tuple" = some false
  decide +kernel
@[simp] theorem isB_str_non : isB "str" .non = some false := by
  show kitB "NoneType" "str" = some false
  decide +kernel
@[simp] theorem isB_str_tup (ds : List D) : isB "str" (.tup ds) = some false := by
  show kitB "tuple" "str" = some false
  decide +kernel
theorem names_all {g : EV} {i : Nat} {xs : List Str} (hn : ∀ x ∈ xs, IsName x) (ρ : Rho) (s : Slot) : True := trivial
theorem asc_names {xs : List Str} (n : xs.Nodup) (hn : ∀ x ∈ xs, IsName x) (hl : xs.length ≤ 1000) : fn_ascending_names [.tup (ss xs)] = .ok (.val (.tup (ss (sortS xs))), []) := by
  have h1 : lcLoop (gtName 1) bvYes (evCall [false] fn_is_name [] (cvFr (evVar 1) (cvNil))) [1] (ss xs) [.sh (.tup (ss xs)), .no] = .ok (xs.map fun _ => D.bl true, [.sh (.tup (ss xs)), .no]) :=
    lc_map (em := D.str) _ xs fun x hx => by
      have := hn x hx
      unfold IsName at this
      simp -implicitDefEqProofs [lcStep, this]
  have hl2 : xs.length ≤ 1000000 := by omega
  have hl3 : xs.length ≤ 4000 := by omega
  simp -implicitDefEqProofs [fn_ascending_names, fnOf_app, b_ascending_names, h1, hl2, hl3, dedup_of_nodup n]
theorem told_cols {xs : List Str} (n : xs.Nodup) (hn : ∀ x ∈ xs, IsName x) (hl : xs.length ≤ 4) : fn_columns_told [.tup (ss xs)] = .ok (.val (.tup (ss (sortS xs))), []) := by
  have h := asc_names n hn (by omega)
  have hl2 : ¬ (4 : Int) < (xs.length : Int) := by omega
  simp -implicitDefEqProofs [fn_columns_told, fnOf_app, b_columns_told, h, hl2]
theorem told_key {cs xs : List Str} (n : xs.Nodup) (hn : ∀ x ∈ xs, IsName x) (hs : ∀ x ∈ xs, x ∈ cs) (hl : xs.length ≤ 1000) : fn_key_told [.tup (ss cs), .tup (ss xs)] = .ok (.val (.tup (ss (sortS xs))), []) := by
  have h := asc_names n hn hl
  have h1 : lcLoop (gtName 3) bvYes (evOp2 dIn (evVar 3) (evVar 0)) [3] (ss (sortS xs)) [.sh (.tup (ss cs)), .sh (.tup (ss xs)), .sh (.tup (ss (sortS xs))), .no] = .ok ((sortS xs).map fun _ => D.bl true, [.sh (.tup (ss cs)), .sh (.tup (ss xs)), .sh (.tup (ss (sortS xs))), .no]) :=
    lc_map (em := D.str) _ (sortS xs) fun x hx => by
      have := hs x (mem_sortS.mp hx)
      simp -implicitDefEqProofs [lcStep, this]
  have hl2 : xs.length ≤ 1000000 := by omega
  simp -implicitDefEqProofs [fn_key_told, fnOf_app, b_key_told, h, h1, hl2]
/-! the line of a table -/
def Row.line (r : Row) : D := .tup [.str r.nm, .tup (ss r.cols), r.kin.d]
theorem line_ok {r : Row} (h : IsName r.nm) : fn_is_line [r.line] = .ok (.val (.bl true), []) := by
  unfold IsName at h
  simp -implicitDefEqProofs [fn_is_line, fnOf_app, b_is_line, Row.line, dIx_tup, ixN, h]
/-- a dict from names of tables -/
theorem told_dict_ok {kvs : List (Str × D)} (h : ∀ kv ∈ kvs, IsName kv.1) (hl : kvs.length ≤ 1000) : fn_told_dict [.dct (kvs.map fun kv => (.inr kv.1, kv.2))] = .ok (.val (.dct (kvs.map fun kv => (.inr kv.1, kv.2))), []) := by
  have h1 : lcLoop (gtName 1) bvYes (evCall [false] fn_is_name [] (cvFr (evVar 1) (cvNil))) [1] ((kvs.map fun kv : Str × D => ((.inr kv.1 : Key), kv.2)).map fun kv => kD kv.1) [.sh (.dct (kvs.map fun kv => (.inr kv.1, kv.2))), .no] = .ok (kvs.map fun _ => D.bl true, [.sh (.dct (kvs.map fun kv => (.inr kv.1, kv.2))), .no]) := by
    rw [List.map_map]
    exact lc_map (em := fun kv : Str × D => D.str kv.1) _ kvs fun x hx => by
      have := h x hx
      unfold IsName at this
      simp -implicitDefEqProofs [lcStep, this]
  have hl2 : kvs.length ≤ 1000000 := by omega
  generalize hk : (kvs.map fun kv : Str × D => ((.inr kv.1 : Key), kv.2)) = ks at *
  have hl3 : ks.length ≤ 1000000 := by rw [← hk, List.length_map]; exact hl2
  simp -implicitDefEqProofs [fn_told_dict, fnOf_app, b_told_dict, h1, hl3, dIsNon]
end Lw
set_option Elab.async false
set_option linter.all false
set_option maxRecDepth 100000
set_option maxHeartbeats 4000000
/-! scenes made: the maker -/
namespace Lw
open PySem L2 Ft
theorem atK_some_iff {κ : Type} [DecidableEq κ] {kvs : List (κ × D)} {k : κ} : (atK kvs k).isSome = true ↔ k ∈ kvs.map (·.1) := by
  rw [atK_isSome, decide_eq_true_eq]
def kvS (kvs : List (Str × D)) : D := .dct (kvs.map fun kv => (.inr kv.1, kv.2))
@[simp] theorem kvS_items (kvs : List (Str × D)) : itemsOf (kvS kvs) = some (ss (kvs.map (·.1))) := by
  show some _ = _
  rw [List.map_map, ss_eq, List.map_map]
  rfl
@[simp] theorem kvS_len (kvs : List (Str × D)) : dLen [kvS kvs] = some (.val (.int kvs.length)) := by
  unfold kvS
  rw [dLen_dct, List.length_map]
theorem inrs_nodup {xs : List Str} (n : xs.Nodup) : (xs.map (Sum.inr : Str → Key)).Nodup := nodup_inj (fun a b e => Sum.inr.inj e) n
theorem kvS_keys (kvs : List (Str × D)) : (kvs.map fun kv : Str × D => ((.inr kv.1 : Key), kv.2)).map (·.1) = (kvs.map (·.1)).map Sum.inr := by
  rw [List.map_map, List.map_map]
  rfl
@[simp] theorem kvS_in (x : Str) (kvs : List (Str × D)) : dInB (.str x) (kvS kvs) = some (decide (x ∈ kvs.map (·.1))) := by
  unfold kvS
  rw [dInB_dct]
  congr 1
  rw [Bool.eq_iff_iff, atK_some_iff, decide_eq_true_eq, kvS_keys]
  constructor
  · intro h
    obtain ⟨y, hy, e⟩ := List.mem_map.mp h
    exact Sum.inr.inj e ▸ hy
  · intro h
    exact List.mem_map.mpr ⟨x, h, rfl⟩
theorem kvS_ix {kvs : List (Str × D)} (n : (kvs.map (·.1)).Nodup) {x : Str} {v : D} (h : (x, v) ∈ kvs) : dIx (kvS kvs) (.str x) = some (.val v) := by
  unfold kvS
  rw [dIx_dct, dKey_str, Option.bind_some, atK_mem (by rw [kvS_keys]; exact inrs_nodup n) (List.mem_map.mpr ⟨(x, v), h, rfl⟩)]
  rfl
theorem kvS_sorted (kvs : List (Str × D)) : dSorted [kvS kvs] = some (.tmp (.lst (ss (sortS (kvs.map (·.1)))))) := by
  unfold kvS
  show sortD _ = _
  rw [List.map_map]
  have : (kvs.map ((fun kv : Key × D => kD kv.1) ∘ fun kv : Str × D => (.inr kv.1, kv.2))) = ss (kvs.map (·.1)) := by
    rw [ss_eq, List.map_map]
    rfl
  rw [this, sortD_ss]
theorem kvS_merge {as bs : List (Str × D)} (n : ((as ++ bs).map (·.1)).Nodup) {fa fb : EV} {ρ ρ1 ρ2 : Rho} (h1 : given fa ρ = .ok (kvS as, ρ1)) (h2 : given fb ρ1 = .ok (kvS bs, ρ2)) (hl : as.length + bs.length ≤ 1000000) : evMerge fa fb ρ = .ok (.tmp (kvS (as ++ bs)), ρ2) := by
  rw [evMerge_two (kvs := as.map fun kv => (.inr kv.1, kv.2)) (more := bs.map fun kv => (.inr kv.1, kv.2)) h1 h2 (by simpa using hl)]
  have n' := inrs_nodup n
  rw [← kvS_keys, List.map_append] at n'
  rw [List.map_append] at n'
  have na := (List.nodup_append.mp n').1
  rw [merge_new na]
  unfold mergeD kvS
  rw [fold_new (fun kv : Key × D => kv) _ _ n', List.map_append]
  simp
/-! scenes as data -/
def Row.chg (r : Row) : Bool := match r.kin with
  | .chg => true
  | _ => false
def Row.keyOf (r : Row) : Option (List Str) := match r.kin with
  | .key ks => some ks
  | _ => none
def chR (rows : List Row) : List (Str × D) := (rows.filter Row.chg).map fun r => (r.nm, .tup (ss r.cols))
def fxR (rows : List Row) : List (Str × D) := (rows.filter fun r => !r.chg).map fun r => (r.nm, .tup (ss r.cols))
def kyR (rows : List Row) : List (Str × D) := rows.filterMap fun r => r.keyOf.map fun ks => (r.nm, .tup (ss ks))
def clR (rows : List Row) : List (Str × D) := rows.map fun r => (r.nm, .tup (ss r.cols))
def everyOf (rows : List Row) : List Str := sortS (dedup (rows.flatMap Row.cols))
def scF (rows : List Row) : List (Nat × D) := [(0, kvS (kyR rows)), (1, kvS (clR rows)), (2, .tup (ss (rows.map Row.nm))), (3, .tup (ss ((rows.filter Row.chg).map Row.nm))), (4, .tup (ss (everyOf rows)))]
def scD (rows : List Row) : D := .obj 0 (scF rows)
def Kin.norm : Kin → Kin
  | .key ks => .key (sortS ks)
  | k => k
def Row.norm (r : Row) : Row := ⟨r.nm, sortS r.cols, r.kin.norm⟩
/-- rows that make a scene -/
structure Lines (rows : List Row) : Prop where
  asc : Asc (rows.map Row.nm)
  nm : ∀ r ∈ rows, IsName r.nm
  cn : ∀ r ∈ rows, r.cols.Nodup
  cnm : ∀ r ∈ rows, ∀ c ∈ r.cols, IsName c
  c4 : ∀ r ∈ rows, r.cols.length ≤ 4
  key : ∀ r ∈ rows, ∀ ks, r.kin = .key ks → ks.Nodup ∧ ∀ k ∈ ks, k ∈ r.cols
  one : 1 ≤ rows.length
  six : rows.length ≤ 6
  few : (dedup (rows.flatMap Row.cols)).length ≤ 6
theorem nodup_len : ∀ {xs ys : List Str}, xs.Nodup → (∀ x ∈ xs, x ∈ ys) → xs.length ≤ ys.length
  | [], _, _, _ => Nat.zero_le _
  | x :: xs, ys, n, h => by
    obtain ⟨a, b, rfl⟩ := List.append_of_mem (h x (List.mem_cons_self ..))
    rw [List.nodup_cons] at n
    have := nodup_len (ys := a ++ b) n.2 fun y hy => by
      have q := h y (List.mem_cons_of_mem _ hy)
      rw [List.mem_append, List.mem_cons] at q
      rcases q with q | rfl | q
      · exact List.mem_append.mpr (.inl q)
      · exact absurd hy n.1
      · exact List.mem_append.mpr (.inr q)
    simp only [List.length_cons, List.length_append] at this ⊢
    omega
theorem Lines.keylen {rows : List Row} (L : Lines rows) {r : Row} (hr : r ∈ rows) {ks : List Str} (e : r.kin = .key ks) : ks.length ≤ 4 := by
  obtain ⟨n, s⟩ := L.key r hr ks e
  have := nodup_len n s
  have := L.c4 r hr
  omega
theorem mem_chR {rows : List Row} {x : Str} : x ∈ (chR rows).map (·.1) ↔ ∃ r ∈ rows, r.chg = true ∧ r.nm = x := by
  simp only [chR, List.mem_map, List.mem_filter]
  constructor
  · rintro ⟨p, ⟨r, ⟨hr, hc⟩, rfl⟩, rfl⟩; exact ⟨r, hr, hc, rfl⟩
  · rintro ⟨r, hr, hc, rfl⟩; exact ⟨_, ⟨r, ⟨hr, hc⟩, rfl⟩, rfl⟩
theorem mem_fxR {rows : List Row} {x : Str} : x ∈ (fxR rows).map (·.1) ↔ ∃ r ∈ rows, r.chg = false ∧ r.nm = x := by
  simp only [fxR, List.mem_map, List.mem_filter]
  constructor
  · rintro ⟨p, ⟨r, ⟨hr, hc⟩, rfl⟩, rfl⟩; exact ⟨r, hr, by simpa using hc, rfl⟩
  · rintro ⟨r, hr, hc, rfl⟩; exact ⟨_, ⟨r, ⟨hr, by simpa using hc⟩, rfl⟩, rfl⟩
theorem mem_kyR {rows : List Row} {x : Str} : x ∈ (kyR rows).map (·.1) ↔ ∃ r ∈ rows, ∃ ks, r.kin = .key ks ∧ r.nm = x := by
  simp only [kyR, List.mem_map, List.mem_filterMap, Option.map_eq_some_iff]
  constructor
  · rintro ⟨p, ⟨r, hr, ks, hk, rfl⟩, rfl⟩
    refine ⟨r, hr, ks, ?_, rfl⟩
    unfold Row.keyOf at hk
    split at hk
    · rename_i k e; cases hk; exact e
    · cases hk
  · rintro ⟨r, hr, ks, e, rfl⟩
    exact ⟨_, ⟨r, hr, ks, by unfold Row.keyOf; rw [e], rfl⟩, rfl⟩
theorem nm_inj {rows : List Row} (n : (rows.map Row.nm).Nodup) {r s : Row} (hr : r ∈ rows) (hs : s ∈ rows) (e : r.nm = s.nm) : r = s := by
  induction rows with
  | nil => cases hr
  | cons a rows ih =>
    rw [List.map_cons, List.nodup_cons] at n
    rcases List.mem_cons.mp hr with h1 | h1
    · rcases List.mem_cons.mp hs with h2 | h2
      · rw [h1, h2]
      · exact absurd (List.mem_map.mpr ⟨s, h2, by rw [← h1, e]⟩) n.1
    · rcases List.mem_cons.mp hs with h2 | h2
      · exact absurd (List.mem_map.mpr ⟨r, h1, by rw [← h2, e]⟩) n.1
      · exact ih n.2 h1 h2
theorem sub_nodup {rows : List Row} (n : (rows.map Row.nm).Nodup) (p : Row → Bool) : ((rows.filter p).map Row.nm).Nodup := (List.filter_sublist.map Row.nm).nodup n
theorem chR_keys (rows : List Row) : (chR rows).map (·.1) = (rows.filter Row.chg).map Row.nm := by
  unfold chR; rw [List.map_map]; rfl
theorem fxR_keys (rows : List Row) : (fxR rows).map (·.1) = (rows.filter fun r => !r.chg).map Row.nm := by
  unfold fxR; rw [List.map_map]; rfl
theorem kyR_sub (rows : List Row) : List.Sublist ((kyR rows).map (·.1)) (rows.map Row.nm) := by
  induction rows with
  | nil => exact List.Sublist.refl _
  | cons r rows ih =>
    unfold kyR at ih ⊢
    rw [List.filterMap_cons]
    cases h : r.keyOf with
    | none => simp only [Option.map_none, List.map_cons]; exact ih.cons _
    | some ks => simp only [Option.map_some, List.map_cons]; exact ih.cons_cons _
theorem both_nodup {rows : List Row} (n : (rows.map Row.nm).Nodup) : ((chR rows ++ fxR rows).map (·.1)).Nodup := by
  rw [List.map_append, List.nodup_append]
  refine ⟨by rw [chR_keys]; exact sub_nodup n _, by rw [fxR_keys]; exact sub_nodup n _, fun x hx y hy e => ?_⟩
  subst e
  obtain ⟨r, hr, c1, e1⟩ := mem_chR.mp hx
  obtain ⟨s, hs, c2, e2⟩ := mem_fxR.mp hy
  have := nm_inj n hr hs (e1.trans e2.symm)
  subst this
  rw [c1] at c2; cases c2
theorem both_sorted {rows : List Row} (a : Asc (rows.map Row.nm)) : sortS ((chR rows ++ fxR rows).map (·.1)) = rows.map Row.nm := by
  refine asc_same (sortS_asc (both_nodup (asc_nodup a))) a fun x => ?_
  rw [mem_sortS, List.map_append, List.mem_append, mem_chR, mem_fxR, List.mem_map]
  constructor
  · rintro (⟨r, hr, _, e⟩ | ⟨r, hr, _, e⟩) <;> exact ⟨r, hr, e⟩
  · rintro ⟨r, hr, e⟩
    cases h : r.chg with
    | true => exact .inl ⟨r, hr, h, e⟩
    | false => exact .inr ⟨r, hr, h, e⟩
theorem both_mem {rows : List Row} {r : Row} (hr : r ∈ rows) : (r.nm, D.tup (ss r.cols)) ∈ chR rows ++ fxR rows := by
  rw [List.mem_append]
  cases h : r.chg with
  | true => exact .inl (List.mem_map.mpr ⟨r, List.mem_filter.mpr ⟨hr, h⟩, rfl⟩)
  | false => exact .inr (List.mem_map.mpr ⟨r, List.mem_filter.mpr ⟨hr, by rw [h]; rfl⟩, rfl⟩)
theorem chg_len (rows : List Row) : (chR rows).length + (fxR rows).length = rows.length := by
  unfold chR fxR
  rw [List.length_map, List.length_map]
  induction rows with
  | nil => rfl
  | cons r rows ih =>
    rw [List.filter_cons, List.filter_cons]
    cases h : r.chg <;> simp <;> omega
end Lw
set_option Elab.async false
set_option linter.all false
set_option maxRecDepth 100000
set_option maxHeartbeats 4000000
/-! scenes made: the maker's walk -/
namespace Lw
open PySem L2 Ft
def kyT (rows : List Row) : List (Str × List Str) := rows.filterMap fun r => r.keyOf.map fun ks => (r.nm, ks)
theorem kyR_T (rows : List Row) : kyR rows = (kyT rows).map fun p => (p.1, D.tup (ss p.2)) := by
  unfold kyR kyT
  rw [List.map_filterMap]
  congr 1
  funext r
  cases r.keyOf <;> rfl
theorem kyT_mem {rows : List Row} {p : Str × List Str} (h : p ∈ kyT rows) : ∃ r ∈ rows, r.kin = .key p.2 ∧ r.nm = p.1 := by
  obtain ⟨r, hr, e⟩ := List.mem_filterMap.mp h
  obtain ⟨ks, hk, rfl⟩ := Option.map_eq_some_iff.mp e
  refine ⟨r, hr, ?_, rfl⟩
  unfold Row.keyOf at hk
  split at hk
  · rename_i k e; cases hk; exact e
  · cases hk
theorem kyT_keys (rows : List Row) : (kyR rows).map (·.1) = (kyT rows).map (·.1) := by
  rw [kyR_T, List.map_map]; rfl
theorem norm_keyOf (r : Row) : r.norm.keyOf = r.keyOf.map sortS := by
  unfold Row.keyOf Row.norm Kin.norm
  cases r.kin <;> rfl
theorem norm_chg (r : Row) : r.norm.chg = r.chg := by
  unfold Row.chg Row.norm Kin.norm
  cases r.kin <;> rfl
theorem kyT_norm (rows : List Row) : kyT (rows.map Row.norm) = (kyT rows).map fun p => (p.1, sortS p.2) := by
  unfold kyT
  rw [List.filterMap_map, List.map_filterMap]
  congr 1
  funext r
  show Option.map _ r.norm.keyOf = _
  rw [norm_keyOf]
  cases r.keyOf <;> rfl
theorem asc_sub {xs ys : List Str} (h : List.Sublist xs ys) (a : Asc ys) : Asc xs := List.Pairwise.sublist h a
theorem every_norm (rows : List Row) : everyOf (rows.map Row.norm) = everyOf rows := by
  unfold everyOf
  refine sortS_same (dedup_nodup _) (dedup_nodup _) fun x => ?_
  simp only [mem_dedup, List.mem_flatMap, List.mem_map]
  constructor
  · rintro ⟨_, ⟨r, hr, rfl⟩, hx⟩
    exact ⟨r, hr, mem_sortS.mp hx⟩
  · rintro ⟨r, hr, hx⟩
    exact ⟨_, ⟨r, hr, rfl⟩, mem_sortS.mpr hx⟩
theorem flat_ss (rows : List Row) (f : Row → List Str) : rows.flatMap (fun r => ss (f r)) = ss (rows.flatMap f) := by
  induction rows with
  | nil => rfl
  | cons r rows ih => rw [List.flatMap_cons, List.flatMap_cons, ih, ss_app]
@[simp] theorem dSorted_kvS (kvs : List (Str × D)) : dSorted [kvS kvs] = some (.tmp (.lst (ss (sortS (kvs.map (·.1)))))) := kvS_sorted kvs
theorem made_init2 {rows us : List Row} (L : Lines rows) (pm : us.Perm rows) : fn_Scenedd_initdd [.obj 0 [], kvS (chR us), kvS (fxR us), kvS (kyR us)] = .ok (.val .non, [scD (rows.map Row.norm)]) := by
  have nn := asc_nodup L.asc
  have l6 := L.six
  have l1 := L.one
  have nu : (us.map Row.nm).Nodup := (pm.map Row.nm).nodup_iff.mpr nn
  have ul := pm.length_eq
  have cl := chg_len us
  have kl : (kyR us).length ≤ 6 := by
    have := (kyR_sub us).length_le
    simp at this; omega
  have kl0 : (kyR rows).length ≤ 6 := by
    have := (kyR_sub rows).length_le
    simp at this; omega
  have t1 : fn_told_dict [kvS (chR us)] = .ok (.val (kvS (chR us)), []) := told_dict_ok (fun kv h => by
    obtain ⟨r, hr, _, e⟩ := mem_chR.mp (List.mem_map.mpr ⟨kv, h, rfl⟩)
    exact e ▸ L.nm r (pm.mem_iff.mp hr)) (by omega)
  have t2 : fn_told_dict [kvS (fxR us)] = .ok (.val (kvS (fxR us)), []) := told_dict_ok (fun kv h => by
    obtain ⟨r, hr, _, e⟩ := mem_fxR.mp (List.mem_map.mpr ⟨kv, h, rfl⟩)
    exact e ▸ L.nm r (pm.mem_iff.mp hr)) (by omega)
  have t3 : fn_told_dict [kvS (kyR us)] = .ok (.val (kvS (kyR us)), []) := told_dict_ok (fun kv h => by
    obtain ⟨r, hr, _, _, e⟩ := mem_kyR.mp (List.mem_map.mpr ⟨kv, h, rfl⟩)
    exact e ▸ L.nm r (pm.mem_iff.mp hr)) (by omega)
  let ρ0 : Rho := [.ln (.obj 0 []), .sh (kvS (chR us)), .sh (kvS (fxR us)), .sh (kvS (kyR us)), .sh (kvS (chR us)), .sh (kvS (fxR us)), .sh (kvS (kyR us)), .no, .no, .no, .no]
  have a1 : lcLoop (gtName 9) bvYes (evOp2 dIn (evVar 9) (evVar 5)) [9] (ss ((chR us).map (·.1))) ρ0 = .ok (((chR us).map (·.1)).map fun x => D.bl false, ρ0) :=
    lc_map (em := D.str) _ _ fun x hx => by
      have : x ∉ (fxR us).map (·.1) := fun hy => by
        have := both_nodup nu
        rw [List.map_append, List.nodup_append] at this
        exact this.2.2 x hx x hy rfl
      simp -implicitDefEqProofs [lcStep, ρ0, this]
  have a2 : lcLoop (gtName 9) bvYes (evOp2 dIn (evVar 9) (evVar 5)) [9] (ss ((kyR us).map (·.1))) ρ0 = .ok (((kyR us).map (·.1)).map fun x => D.bl true, ρ0) :=
    lc_map (em := D.str) _ _ fun x hx => by
      have : x ∈ (fxR us).map (·.1) := by
        obtain ⟨r, hr, ks, hk, e⟩ := mem_kyR.mp hx
        exact mem_fxR.mpr ⟨r, hr, by unfold Row.chg; rw [hk], e⟩
      simp -implicitDefEqProofs [lcStep, ρ0, this]
  have y1 : dAny [.lst (((chR us).map (·.1)).map fun x => D.bl false)] = some (.val (.bl false)) := by
    have := dAny_map (fun _ : Str => false) ((chR us).map (·.1))
    rw [this]
    simp
  have y2 : dAll [.lst (((kyR us).map (·.1)).map fun x => D.bl true)] = some (.val (.bl true)) := dAll_yes _
  -- told
  have m1 : evMerge (evVar 4) (evVar 5) ρ0 = .ok (.tmp (kvS (chR us ++ fxR us)), ρ0) := kvS_merge (ρ1 := ρ0) (both_nodup nu) (by simp [ρ0]) (by simp [ρ0]) (by omega)
  let ρ1 : Rho := [.ln (.obj 0 []), .sh (kvS (chR us)), .sh (kvS (fxR us)), .sh (kvS (kyR us)), .sh (kvS (chR us)), .sh (kvS (fxR us)), .sh (kvS (kyR us)), .ow (kvS (chR us ++ fxR us)), .no, .no, .no]
  have b1 : dcLoop (gtName 9) bvYes (evVar 9) (evCall [false] fn_columns_told [] (cvFr (evOp2 dIx (evVar 7) (evVar 9)) (cvNil))) [9] (ss (rows.map Row.nm)) [] ρ1 = .ok (rows.map fun r => (.inr r.nm, .tup (ss (sortS r.cols))), ρ1) := by
    rw [ss_eq, List.map_map]
    refine dc_new (em := D.str ∘ Row.nm) (fun r : Row => ((.inr r.nm : Key), D.tup (ss (sortS r.cols)))) rows (by
      have := inrs_nodup nn
      rw [List.map_map] at this
      exact this) fun r hr => ?_
    have h1 := kvS_ix (both_nodup nu) (both_mem (pm.mem_iff.mpr hr))
    have h2 := told_cols (L.cn r hr) (L.cnm r hr) (L.c4 r hr)
    simp -implicitDefEqProofs [dcStep, ρ1, h1, h2]
  have b1' : D.dct (rows.map fun r => (.inr r.nm, .tup (ss (sortS r.cols)))) = kvS (clR (rows.map Row.norm)) := by
    unfold kvS clR
    rw [List.map_map, List.map_map]
    rfl
  obtain ⟨C8, hC8⟩ : ∃ d : D, d = kvS (clR (rows.map Row.norm)) := ⟨_, rfl⟩
  rw [← hC8] at b1'
  let ρ2 : Rho := [.ln (.obj 0 []), .sh (kvS (chR us)), .sh (kvS (fxR us)), .sh (kvS (kyR us)), .sh (kvS (chR us)), .sh (kvS (fxR us)), .sh (kvS (kyR us)), .ow (kvS (chR us ++ fxR us)), .ow C8, .no, .no]
  have n8 : ((clR (rows.map Row.norm)).map (·.1)).Nodup := by
    unfold clR
    rw [List.map_map, List.map_map]
    exact nn
  have i8 : ∀ r ∈ rows, dIx C8 (.str r.nm) = some (.val (.tup (ss (sortS r.cols)))) := fun r hr => hC8 ▸ kvS_ix n8 (List.mem_map.mpr ⟨r.norm, List.mem_map.mpr ⟨r, hr, rfl⟩, rfl⟩)
  have kasc : Asc ((kyR rows).map (·.1)) := asc_sub (kyR_sub rows) L.asc
  have c1 : dcLoop (gtName 9) bvYes (evVar 9) (evCall [false,false] fn_key_told [] (cvFr (evOp2 dIx (evVar 8) (evVar 9)) (cvFr (evOp2 dIx (evVar 6) (evVar 9)) (cvNil)))) [9] (ss ((kyR rows).map (·.1))) [] ρ2 = .ok ((kyT rows).map fun p => (.inr p.1, .tup (ss (sortS p.2))), ρ2) := by
    rw [kyT_keys, ss_eq, List.map_map]
    refine dc_new (em := D.str ∘ fun p : Str × List Str => p.1) (fun p : Str × List Str => ((.inr p.1 : Key), D.tup (ss (sortS p.2)))) (kyT rows) (by
      have := inrs_nodup (asc_nodup kasc)
      rw [kyT_keys, List.map_map] at this
      exact this) fun p hp => ?_
    obtain ⟨r, hr, hk, e⟩ := kyT_mem hp
    have h0 := i8 r hr
    rw [e] at h0
    have h1 : dIx (kvS (kyR us)) (.str p.1) = some (.val (.tup (ss p.2))) := kvS_ix ((kyR_sub us).nodup nu) ((pm.filterMap _).mem_iff.mpr (show _ ∈ kyR rows by rw [kyR_T]; exact List.mem_map.mpr ⟨p, hp, rfl⟩))
    obtain ⟨kn, ks⟩ := L.key r hr p.2 hk
    have kl4 := L.keylen hr hk
    have h2 := told_key (cs := sortS r.cols) kn (fun x hx => L.cnm r hr x (ks x hx)) (fun x hx => mem_sortS.mpr (ks x hx)) (by omega)
    simp -implicitDefEqProofs [dcStep, ρ2, h0, h1, h2]
  have c1' : D.dct ((kyT rows).map fun p => (.inr p.1, .tup (ss (sortS p.2)))) = kvS (kyR (rows.map Row.norm)) := by
    rw [kyR_T, kyT_norm]
    unfold kvS
    rw [List.map_map, List.map_map]
    rfl
  have s1 : sortS ((chR us ++ fxR us).map (·.1)) = rows.map Row.nm := by
    refine Eq.trans (sortS_same (both_nodup nu) (both_nodup nn) fun x => ?_) (both_sorted L.asc)
    exact (((pm.filter _).map _).append ((pm.filter _).map _)).map (fun q : Str × D => q.1) |>.mem_iff
  have s2 : sortS ((kyR us).map (·.1)) = (kyR rows).map (·.1) := by
    refine Eq.trans (sortS_same ((kyR_sub us).nodup nu) (asc_nodup kasc) fun x => ?_) (sortS_of_asc kasc)
    exact ((pm.filterMap _).map (fun q : Str × D => q.1)).mem_iff
  have casc : Asc ((chR rows).map (·.1)) := by rw [chR_keys]; exact asc_sub (List.filter_sublist.map Row.nm) L.asc
  have s3 : sortS ((chR us).map (·.1)) = (chR rows).map (·.1) := by
    refine Eq.trans (sortS_same (by rw [chR_keys]; exact sub_nodup nu _) (asc_nodup casc) fun x => ?_) (sortS_of_asc casc)
    exact (((pm.filter _).map _).map (fun q : Str × D => q.1)).mem_iff
  obtain ⟨K0, hK0⟩ : ∃ d : D, d = kvS (kyR (rows.map Row.norm)) := ⟨_, rfl⟩
  rw [← hK0] at c1'
  let O3 : D := .obj 0 [(0, K0), (1, C8), (2, .tup (ss (rows.map Row.nm))), (3, .tup (ss ((chR rows).map (·.1))))]
  let ρ3 : Rho := [.ln O3, .sh (kvS (chR us)), .sh (kvS (fxR us)), .sh (kvS (kyR us)), .sh (kvS (chR us)), .sh (kvS (fxR us)), .sh (kvS (kyR us)), .ow (kvS (chR us ++ fxR us)), .sh C8, .no, .no]
  have d1 : lcOut (gtName 9) bvYes (ivOf (evOp2 dIx (evVar 8) (evVar 9))) (gtName 10) bvYes (evVar 10) [9, 10] [10] (ss (rows.map Row.nm)) ρ3 = .ok (rows.flatMap fun r => ss (sortS r.cols), ρ3) := by
    rw [ss_eq, List.map_map]
    refine out_map (em := D.str ∘ Row.nm) (fun r : Row => ss (sortS r.cols)) rows fun r hr => ?_
    have h0 := i8 r hr
    have h4 := L.c4 r hr
    have hl : r.cols.length ≤ 1000 := by omega
    have h1 : lcLoop (gtName 10) bvYes (evVar 10) [10] (ss (sortS r.cols)) [.ln O3, .sh (kvS (chR us)), .sh (kvS (fxR us)), .sh (kvS (kyR us)), .sh (kvS (chR us)), .sh (kvS (fxR us)), .sh (kvS (kyR us)), .ow (kvS (chR us ++ fxR us)), .sh C8, .sh (.str r.nm), .no] = .ok ((sortS r.cols).map D.str, [.ln O3, .sh (kvS (chR us)), .sh (kvS (fxR us)), .sh (kvS (kyR us)), .sh (kvS (chR us)), .sh (kvS (fxR us)), .sh (kvS (kyR us)), .ow (kvS (chR us ++ fxR us)), .sh C8, .sh (.str r.nm), .no]) :=
      lc_map (em := D.str) D.str _ fun x hx => by simp -implicitDefEqProofs [lcStep]
    rw [← ss_eq] at h1
    simp -implicitDefEqProofs [outStep, ρ3, h0, h1, hl]
  have d2 : (rows.flatMap fun r => ss (sortS r.cols)) = ss ((rows.map Row.norm).flatMap Row.cols) := by
    rw [flat_ss, List.flatMap_map]
    rfl
  have i8' : itemsOf C8 = some (ss (rows.map Row.nm)) := by
    rw [hC8, kvS_items]
    unfold clR
    rw [List.map_map, List.map_map]
    rfl
  have e1 : sortS (dedup ((rows.map Row.norm).flatMap Row.cols)) = everyOf rows := every_norm rows
  have flen : ((rows.map Row.norm).flatMap Row.cols).length ≤ 4000 := by
    have : ∀ rs : List Row, (∀ r ∈ rs, r.cols.length ≤ 4) → (rs.flatMap Row.cols).length ≤ 4 * rs.length := by
      intro rs
      induction rs with
      | nil => intro _; simp
      | cons r rs ih =>
        intro h
        have h1 := h r (List.mem_cons_self ..)
        have h2 := ih fun s hs => h s (List.mem_cons_of_mem _ hs)
        rw [List.flatMap_cons, List.length_append, List.length_cons]
        omega
    have := this (rows.map Row.norm) fun r hr => by
      obtain ⟨s, hs, rfl⟩ := List.mem_map.mp hr
      show (sortS s.cols).length ≤ 4
      rw [sortS_length]
      exact L.c4 s hs
    rw [List.length_map] at this
    omega
  have el : (everyOf rows).length ≤ 6 := by
    unfold everyOf
    rw [sortS_length]
    exact L.few
  have hs : scD (rows.map Row.norm) = .obj 0 [(0, K0), (1, C8), (2, .tup (ss (rows.map Row.nm))), (3, .tup (ss ((chR rows).map (·.1)))), (4, .tup (ss (everyOf rows)))] := by
    unfold scD scF
    rw [every_norm, chR_keys, List.filter_map, List.map_map, List.map_map, hC8, hK0]
    have : (Row.chg ∘ Row.norm) = Row.chg := funext norm_chg
    rw [this]
    rfl
  rw [hs]
  have bl : ((chR us).map (·.1)).length ≤ 1000000 := by rw [List.length_map]; omega
  have kl2 : ((kyR us).map (·.1)).length ≤ 1000000 := by rw [List.length_map]; omega
  have kl3 : ((kyR rows).map (·.1)).length ≤ 1000000 := by rw [List.length_map]; omega
  have rl : (rows.map Row.nm).length ≤ 1000000 := by rw [List.length_map]; omega
  have rl2 : (rows.map Row.nm).length ≤ 1000 := by rw [List.length_map]; omega
  simp only [ρ0, ρ1, ρ2, ρ3, O3] at a1 a2 m1 b1 c1 d1
  rw [d2] at d1
  have el2 : ¬ (6 : Int) < ((everyOf rows).length : Int) := by omega
  have rr1 : (1 : Int) ≤ ((chR us).length : Int) + ((fxR us).length : Int) := by omega
  have rr2 : ((chR us).length : Int) + ((fxR us).length : Int) ≤ 6 := by omega
  have rd : (dedup ((rows.map Row.norm).flatMap Row.cols)).length ≤ 4000 := by have := dedup_len ((rows.map Row.norm).flatMap Row.cols); omega
  clear rd hs d2
  generalize (rows.map Row.norm).flatMap Row.cols = FL at *
  simp -implicitDefEqProofs [-List.map_map, -List.length_map, -List.map_append, -List.flatMap_map, fn_Scenedd_initdd, fnOf_app, b_Scenedd_initdd, t1, t2, t3, a1, a2, y1, y2, m1, b1, b1', c1, c1', s1, s2, s3, d1, i8', e1, el2, rr1, rr2, bl, kl2, kl3, rl, rl2, flen, putFD, List.lookup]
theorem made_init {rows : List Row} (L : Lines rows) : fn_Scenedd_initdd [.obj 0 [], kvS (chR rows), kvS (fxR rows), kvS (kyR rows)] = .ok (.val .non, [scD (rows.map Row.norm)]) := made_init2 L (.refl _)
end Lw
set_option Elab.async false
set_option linter.all false
set_option maxRecDepth 100000
set_option maxHeartbeats 4000000
/-! scenes of lines -/
namespace Lw
open PySem L2 Ft
theorem sSet_kvS {kvs : List (Str × D)} {x : Str} {v : D} (h : x ∉ kvs.map (·.1)) (hl : kvs.length < 1000) : sSet (kvS kvs) (.str x) v = some (kvS (kvs ++ [(x, v)])) := by
  unfold sSet kvS
  simp only [dKey_str, Option.bind_some, List.length_map]
  rw [if_pos (by omega), put_new]
  · rw [List.map_append]; rfl
  · rw [kvS_keys]
    intro z
    obtain ⟨y, hy, e⟩ := List.mem_map.mp z
    exact h (Sum.inr.inj e ▸ hy)
theorem chR_add (dn : List Row) (r : Row) : chR (dn ++ [r]) = chR dn ++ (if r.chg = true then [(r.nm, D.tup (ss r.cols))] else []) := by
  unfold chR
  rw [List.filter_append, List.map_append]
  cases h : r.chg <;> simp [h]
theorem fxR_add (dn : List Row) (r : Row) : fxR (dn ++ [r]) = fxR dn ++ (if r.chg = true then [] else [(r.nm, D.tup (ss r.cols))]) := by
  unfold fxR
  rw [List.filter_append, List.map_append]
  cases h : r.chg <;> simp [h]
theorem kyR_add (dn : List Row) (r : Row) : kyR (dn ++ [r]) = kyR dn ++ (match r.keyOf with | some ks => [(r.nm, D.tup (ss ks))] | none => []) := by
  unfold kyR
  rw [List.filterMap_append]
  congr 1
  cases h : r.keyOf <;> simp [h]
abbrev inBody : SV := (svIf (bvAnd (tst (evIsi (isB "str") (evVar 6))) (tst (evOp2 dEq (evVar 6) (evC (.str "changing"))))) (svSub 1 (evVar 4) (evVar 5)) (svSeq (svSub 2 (evVar 4) (evVar 5)) (svIf (tst (evOp2 dIsNotNon (evVar 6) (evC .non))) (svSub 3 (evVar 4) (evVar 6)) (svNext))))
abbrev inTarget : GT := (gtTup 3 (gtCons (gtName 4) (gtCons (gtName 5) (gtCons (gtName 6) (gtNil)))))
theorem in_turn {dn : List Row} {r : Row} (n : ((dn ++ [r]).map Row.nm).Nodup) (hl : dn.length < 100) (lines : D) {s4 s5 s6 : Slot} (f4 : Slot.soft s4) (f5 : Slot.soft s5) (f6 : Slot.soft s6) :
    turn inTarget inBody r.line [.sh lines, .ow (kvS (chR dn)), .ow (kvS (fxR dn)), .ow (kvS (kyR dn)), s4, s5, s6, .no] = .ok (.next, [.sh lines, .ow (kvS (chR (dn ++ [r]))), .ow (kvS (fxR (dn ++ [r]))), .ow (kvS (kyR (dn ++ [r]))), .sh (.str r.nm), .sh (.tup (ss r.cols)), .sh r.kin.d, .no]) := by
  have hn : r.nm ∉ dn.map Row.nm := by
    rw [List.map_append, List.nodup_append] at n
    exact fun z => n.2.2 _ z r.nm (by simp) rfl
  have h1 : r.nm ∉ (chR dn).map (·.1) := fun z => by
    obtain ⟨s, hs, _, e⟩ := mem_chR.mp z
    exact hn (List.mem_map.mpr ⟨s, hs, e⟩)
  have h2 : r.nm ∉ (fxR dn).map (·.1) := fun z => by
    obtain ⟨s, hs, _, e⟩ := mem_fxR.mp z
    exact hn (List.mem_map.mpr ⟨s, hs, e⟩)
  have h3 : r.nm ∉ (kyR dn).map (·.1) := fun z => by
    obtain ⟨s, hs, _, _, e⟩ := mem_kyR.mp z
    exact hn (List.mem_map.mpr ⟨s, hs, e⟩)
  have cl := chg_len dn
  have kl : (kyR dn).length ≤ dn.length := by
    have := (kyR_sub dn).length_le
    simpa using this
  have e1 := fun v => sSet_kvS (v := v) h1 (by omega)
  have e2 := fun v => sSet_kvS (v := v) h2 (by omega)
  have e3 := fun v => sSet_kvS (v := v) h3 (by omega)
  rw [chR_add, fxR_add, kyR_add]
  obtain ⟨nm, cols, kin⟩ := r
  cases kin with
  | chg =>
    have c : Row.chg ⟨nm, cols, .chg⟩ = true := rfl
    have k : Row.keyOf ⟨nm, cols, .chg⟩ = none := rfl
    rw [c, k]
    simp -implicitDefEqProofs [turn, Row.line, Kin.d, storeAt_soft, f4, f5, f6, e1]
  | fix =>
    have c : Row.chg ⟨nm, cols, .fix⟩ = false := rfl
    have k : Row.keyOf ⟨nm, cols, .fix⟩ = none := rfl
    rw [c, k]
    simp -implicitDefEqProofs [turn, Row.line, Kin.d, storeAt_soft, f4, f5, f6, e2, dIsNotNon]
  | key ks =>
    have c : Row.chg ⟨nm, cols, .key ks⟩ = false := rfl
    have k : Row.keyOf ⟨nm, cols, .key ks⟩ = some ks := rfl
    rw [c, k]
    simp -implicitDefEqProofs [turn, Row.line, Kin.d, storeAt_soft, f4, f5, f6, e2, e3, dIsNotNon]
theorem scene_in_ok2 {rows us : List Row} (L : Lines rows) (pm : us.Perm rows) : fn_scene_in [.tup (us.map Row.line)] = .ok (.tmp (scD (rows.map Row.norm)), []) := by
  have nn : (us.map Row.nm).Nodup := (pm.map Row.nm).nodup_iff.mpr (asc_nodup L.asc)
  have ul := pm.length_eq
  have l6 := L.six
  have hlen : (us.map Row.line).length ≤ 1000000 := by rw [List.length_map]; omega
  let ρ0 : Rho := [.sh (.tup (us.map Row.line)), .no, .no, .no, .no, .no, .no, .no]
  have a1 : lcLoop (gtName 7) bvYes (evCall [false] fn_is_line [] (cvFr (evVar 7) (cvNil))) [7] (us.map Row.line) ρ0 = .ok (us.map fun _ => D.bl true, ρ0) :=
    lc_map (em := Row.line) _ us fun r hr => by
      have := line_ok (L.nm r (pm.mem_iff.mp hr))
      simp -implicitDefEqProofs [lcStep, ρ0, this]
  have a2 : lcLoop (gtName 7) bvYes (evOp2 dIx (evVar 7) (evC (.int 0))) [7] (us.map Row.line) ρ0 = .ok (ss (us.map Row.nm), ρ0) := by
    rw [ss_eq, List.map_map]
    exact lc_map (em := Row.line) (D.str ∘ Row.nm) us fun r hr => by
      simp -implicitDefEqProofs [lcStep, ρ0, Row.line, dIx_tup, ixN]
  obtain ⟨ρ', el, s4, s5, s6, g4, g5, g6, rfl⟩ := for_inv (g := inTarget) (body := inBody) (em := Row.line) (fun dn ρ => ∃ s4 s5 s6, Slot.soft s4 ∧ Slot.soft s5 ∧ Slot.soft s6 ∧ ρ = [.sh (.tup (us.map Row.line)), .ow (kvS (chR dn)), .ow (kvS (fxR dn)), .ow (kvS (kyR dn)), s4, s5, s6, .no])
    us [] [.sh (.tup (us.map Row.line)), .ow (.dct []), .ow (.dct []), .ow (.dct []), .no, .no, .no, .no] ⟨.no, .no, .no, soft_no, soft_no, soft_no, rfl⟩ (by
      rintro dn r rest ρ hq ⟨s4, s5, s6, f4, f5, f6, rfl⟩
      rw [List.nil_append] at hq
      refine ⟨_, in_turn (by
        rw [hq, List.map_append] at nn
        rw [List.map_append]
        refine List.Sublist.nodup ?_ nn
        exact List.Sublist.append_left (by simp) _) (by
        have := congrArg List.length hq
        simp at this
        omega) _ f4 f5 f6, _, _, _, soft_sh _, soft_sh _, soft_sh _, rfl⟩)
  rw [List.nil_append] at el
  have hm := made_init2 L pm
  have hd : dedup (us.map Row.nm) = us.map Row.nm := dedup_of_nodup nn
  have h4 : us.length ≤ 4000 := by omega
  have hz : us.length ≤ 1000000 := by omega
  simp only [ρ0] at a1 a2
  simp -implicitDefEqProofs [fn_scene_in, fnOf_app, b_scene_in, a1, a2, el, hm, hd, h4, hz]
theorem scene_in_ok {rows : List Row} (L : Lines rows) : fn_scene_in [.tup (rows.map Row.line)] = .ok (.tmp (scD (rows.map Row.norm)), []) := scene_in_ok2 L (.refl _)
end Lw
set_option Elab.async false
set_option linter.all false
set_option maxRecDepth 100000
set_option maxHeartbeats 4000000
/-! drawn scenes, made -/
namespace Lw
open PySem L2 Ft
theorem norm_kin {cols : List Str} {k : Kin} (h : k.ok cols) : k.norm = k := by
  cases k with
  | key ks =>
    show Kin.key (sortS ks) = _
    rw [sortS_of_asc h.1]
  | _ => rfl
theorem norm_good {pool : List Str} {r : Row} (h : r.Good pool) : r.norm = r := by
  obtain ⟨nm, cols, kin⟩ := r
  unfold Row.norm
  rw [sortS_of_asc h.asc, norm_kin h.kin]
theorem norm_rows {pool : List Str} {most : Nat} {rows : List Row} (h : Rows pool most rows) : rows.map Row.norm = rows := by
  conv => rhs; rw [← List.map_id rows]
  exact List.map_congr_left fun r hr => norm_good (h.good r hr)
theorem rows_lines {pool : List Str} {most : Nat} {rows : List Row} (h : Rows pool most rows) (pn : pool.Nodup) (pw : ∀ c ∈ pool, c ∈ wordsT) (pl : pool.length ≤ 6) (hm : most ≤ 6) : Lines rows where
  asc := h.asc
  nm := fun r hr => words_names _ (h.good r hr).word
  cn := fun r hr => asc_nodup (h.good r hr).asc
  cnm := fun r hr c hc => words_names _ (pw c ((h.good r hr).sub c hc))
  c4 := fun r hr => by have := (h.good r hr).few; omega
  key := fun r hr ks e => by
    have := (h.good r hr).kin
    rw [e] at this
    exact ⟨asc_nodup this.1, this.2.1⟩
  one := h.one
  six := by have := h.few; omega
  few := by
    have := nodup_len (dedup_nodup (rows.flatMap Row.cols)) (ys := pool) fun x hx => by
      obtain ⟨r, hr, hc⟩ := List.mem_flatMap.mp (mem_dedup.mp hx)
      exact (h.good r hr).sub x hc
    omega
theorem of_ok {rows : List Row} (L : Lines rows) (a : D) : fn_Scene_of [a, .tup (rows.map Row.line)] = .ok (.tmp (scD (rows.map Row.norm)), []) := by
  have h := scene_in_ok L
  simp -implicitDefEqProofs [fn_Scene_of, fnOf_app, b_Scene_of, h]
theorem of_ok2 {rows us : List Row} (L : Lines rows) (pm : us.Perm rows) (a : D) : fn_Scene_of [a, .tup (us.map Row.line)] = .ok (.tmp (scD (rows.map Row.norm)), []) := by
  have h := scene_in_ok2 L pm
  simp -implicitDefEqProofs [fn_Scene_of, fnOf_app, b_Scene_of, h]
theorem made_ok {rows : List Row} (L : Lines rows) : fn__law_scene_made [rowsD rows] = .ok (.tmp (scD (rows.map Row.norm)), []) := by
  have nn := asc_nodup L.asc
  have l6 := L.six
  have a1 : lcLoop (gtName 1) bvYes (evTup (gvCons (evVar 1) (gvCons (evOp2 dIx (evOp2 dIx (evVar 0) (evVar 1)) (evC (.int 0))) (gvCons (evOp2 dIx (evOp2 dIx (evVar 0) (evVar 1)) (evC (.int 1))) (gvNil))))) [1] (ss (rows.map Row.nm)) [.sh (rowsD rows), .no] = .ok (rows.map Row.line, [.sh (rowsD rows), .no]) := by
    rw [ss_eq, List.map_map]
    exact lc_map (em := D.str ∘ Row.nm) Row.line rows fun r hr => by
      have := dIx_row nn hr
      simp -implicitDefEqProofs [lcStep, this, Row.pair, dIx_tup, ixN, Row.line]
  have h := of_ok L
  have hz : rows.length ≤ 1000000 := by omega
  simp -implicitDefEqProofs [fn__law_scene_made, fnOf_app, b__law_scene_made, a1, h, hz, cvAtm]
end Lw
set_option Elab.async false
set_option linter.all false
set_option maxRecDepth 100000
set_option maxHeartbeats 4000000
/-! closures: the walk of the steps -/
namespace Lw
open PySem L2 Ft
def kn (xs : List Str) : D := kvS (xs.map fun c => (c, D.bl true))
def addAll (known cols : List Str) : List Str := cols.foldl (fun a c => if c ∈ a then a else a ++ [c]) known
theorem addAll_spec : ∀ (cols known : List Str), known.Nodup → (addAll known cols).Nodup ∧ (∀ x, x ∈ addAll known cols ↔ x ∈ known ∨ x ∈ cols) ∧ (addAll known cols).length ≤ known.length + cols.length
  | [], known, n => ⟨n, fun x => by simp [addAll], by simp [addAll]⟩
  | c :: cols, known, n => by
    have e : addAll known (c :: cols) = addAll (if c ∈ known then known else known ++ [c]) cols := rfl
    rw [e]
    by_cases h : c ∈ known
    · rw [if_pos h]
      obtain ⟨a, b, d⟩ := addAll_spec cols known n
      refine ⟨a, fun x => ?_, by simp; omega⟩
      rw [b, List.mem_cons]
      constructor
      · rintro (z | z)
        · exact .inl z
        · exact .inr (.inr z)
      · rintro (z | rfl | z)
        · exact .inl z
        · exact .inl h
        · exact .inr z
    · rw [if_neg h]
      have n2 : (known ++ [c]).Nodup := by
        rw [List.nodup_append]
        refine ⟨n, by simp, fun x hx y hy e => h ?_⟩
        rw [List.mem_singleton] at hy
        rw [← hy, ← e]; exact hx
      obtain ⟨a, b, d⟩ := addAll_spec cols (known ++ [c]) n2
      refine ⟨a, fun x => ?_, by simp at d ⊢; omega⟩
      rw [b, List.mem_append, List.mem_singleton, List.mem_cons, or_assoc]
theorem put_kn (known : List Str) (c : Str) : putD (known.map fun c => ((.inr c : Key), D.bl true)) (.inr c) (.bl true) = ((if c ∈ known then known else known ++ [c]).map fun c => ((.inr c : Key), D.bl true)) := by
  by_cases h : c ∈ known
  · rw [if_pos h]
    unfold putD
    rw [if_pos]
    · rw [List.map_map]
      refine List.map_congr_left fun x hx => ?_
      show (if (Sum.inr x : Key) = Sum.inr c then _ else _) = _
      split <;> rfl
    · exact List.any_eq_true.mpr ⟨(.inr c, .bl true), List.mem_map.mpr ⟨c, h, rfl⟩, decide_eq_true rfl⟩
  · rw [if_neg h, put_new, List.map_append]
    · rfl
    · rw [List.map_map]
      intro z
      obtain ⟨y, hy, e⟩ := List.mem_map.mp z
      exact h (Sum.inr.inj e ▸ hy)
theorem kn_eq (xs : List Str) : kn xs = .dct (xs.map fun c => ((.inr c : Key), D.bl true)) := by
  unfold kn kvS
  rw [List.map_map]
  rfl
theorem merge_kn : ∀ (cols known : List Str), mergeD (known.map fun c => ((.inr c : Key), D.bl true)) (cols.map fun c => ((.inr c : Key), D.bl true)) = (addAll known cols).map fun c => ((.inr c : Key), D.bl true)
  | [], known => rfl
  | c :: cols, known => by
    have e : addAll known (c :: cols) = addAll (if c ∈ known then known else known ++ [c]) cols := rfl
    rw [e, ← merge_kn cols, ← put_kn]
    rfl
theorem update_kn {known cols : List Str} (h : known.length + cols.length ≤ 1000) : mUpdate (kn known) [kn cols] = some (kn (addAll known cols), .non) := by
  rw [kn_eq, kn_eq, kn_eq, ← merge_kn]
  unfold mUpdate
  simp only [List.length_map]
  rw [if_pos (by omega)]
@[simp] theorem kn_in (x : Str) (xs : List Str) : dInB (.str x) (kn xs) = some (decide (x ∈ xs)) := by
  unfold kn
  rw [kvS_in, List.map_map]
  congr 2
  show (x ∈ xs.map id) = _
  rw [List.map_id]
@[simp] theorem isK_lst (ds : List D) : Kd.is .lst (.lst ds) = true := rfl
@[simp] theorem kn_is (xs : List Str) : Kd.is .dct (kn xs) = true := rfl
@[simp] theorem dSorted_kn (xs : List Str) : dSorted [kn xs] = some (.tmp (.lst (ss (sortS xs)))) := by
  unfold kn
  rw [dSorted_kvS, List.map_map]
  congr 5
  exact List.map_id xs
/-- what is closed, by the keys of the tables T -/
def Closed (T : List Row) (S : List Str) : Prop := ∀ r ∈ T, ∀ ks, r.keyOf = some ks → (∀ k ∈ ks, k ∈ S) → ∀ c ∈ r.cols, c ∈ S
def okr (known : List Str) (r : Row) : Bool := match r.keyOf with
  | some ks => ks.all fun k => decide (k ∈ known)
  | none => false
theorem okr_iff {known : List Str} {r : Row} : okr known r = true ↔ ∃ ks, r.keyOf = some ks ∧ ∀ k ∈ ks, k ∈ known := by
  unfold okr
  cases h : r.keyOf with
  | none => simp
  | some ks => simp [List.all_eq_true]
end Lw
set_option Elab.async false
set_option linter.all false
set_option maxRecDepth 100000
set_option maxHeartbeats 4000000
/-! closures: the loop -/
namespace Lw
open PySem L2 Ft
/-- rows of a scene that is made -/
structure Made (rows : List Row) : Prop where
  L : Lines rows
  norm : rows.map Row.norm = rows
theorem Made.ix_cols {rows : List Row} (M : Made rows) {r : Row} (h : r ∈ rows) : dIx (kvS (clR rows)) (.str r.nm) = some (.val (.tup (ss r.cols))) :=
  kvS_ix (by unfold clR; rw [List.map_map]; exact asc_nodup M.L.asc) (List.mem_map.mpr ⟨r, h, rfl⟩)
theorem Made.ix_key {rows : List Row} (M : Made rows) {r : Row} (h : r ∈ rows) {ks : List Str} (e : r.keyOf = some ks) : dIx (kvS (kyR rows)) (.str r.nm) = some (.val (.tup (ss ks))) :=
  kvS_ix (asc_nodup (asc_sub (kyR_sub rows) M.L.asc)) (List.mem_filterMap.mpr ⟨r, h, by rw [e]; rfl⟩)
theorem Made.in_key {rows : List Row} (M : Made rows) {r : Row} (h : r ∈ rows) : decide (r.nm ∈ (kyR rows).map (·.1)) = r.keyOf.isSome := by
  rw [Bool.eq_iff_iff, decide_eq_true_eq, mem_kyR]
  constructor
  · rintro ⟨s, hs, ks, hk, e⟩
    have := nm_inj (asc_nodup M.L.asc) hs h e
    subst this
    unfold Row.keyOf; rw [hk]; rfl
  · intro z
    obtain ⟨ks, e⟩ := Option.isSome_iff_exists.mp z
    refine ⟨r, h, ks, ?_, rfl⟩
    unfold Row.keyOf at e
    split at e
    · rename_i k q; cases e; exact q
    · cases e
theorem okr_mono {k1 k2 : List Str} (h : ∀ x ∈ k1, x ∈ k2) {r : Row} (o : okr k1 r = true) : okr k2 r = true := by
  obtain ⟨ks, e, z⟩ := okr_iff.mp o
  exact okr_iff.mpr ⟨ks, e, fun k hk => h k (z k hk)⟩
/-- the tables that are ready, in their order -/
def rdy (T : List Row) (known : List Str) (used : List Row) : List Row := T.filter fun r => okr known r && decide (r.nm ∉ used.map Row.nm)
theorem okr_same {k1 k2 : List Str} (h : ∀ x, x ∈ k1 ↔ x ∈ k2) (r : Row) : okr k1 r = okr k2 r := by
  rw [Bool.eq_iff_iff]
  exact ⟨okr_mono fun x => (h x).mp, okr_mono fun x => (h x).mpr⟩
theorem rdy_same {k1 k2 : List Str} (h : ∀ x, x ∈ k1 ↔ x ∈ k2) (T used : List Row) : rdy T k1 used = rdy T k2 used := by
  unfold rdy
  exact List.filter_congr fun r _ => by rw [okr_same h]
/-- from known and used on, again and again the first that is ready, the steps end with .. -/
inductive Wk (T : List Row) : List Str → List Row → List Row → Prop
  | done {known : List Str} {used : List Row} : rdy T known used = [] → Wk T known used used
  | step {known : List Str} {used rest out : List Row} {r0 : Row} : rdy T known used = r0 :: rest → Wk T (known ++ r0.cols) (used ++ [r0]) out → Wk T known used out
theorem Wk.det {T : List Row} {known : List Str} {used a b : List Row} (h : Wk T known used a) (g : Wk T known used b) : a = b := by
  induction h with
  | done e =>
    cases g with
    | done _ => rfl
    | step e2 _ => rw [e] at e2; cases e2
  | step e _ ih =>
    cases g with
    | done e2 => rw [e] at e2; cases e2
    | step e2 g2 => rw [e] at e2; cases e2; exact ih g2
theorem Wk.congr {T : List Row} {k1 : List Str} {used out : List Row} (h : Wk T k1 used out) : ∀ {k2 : List Str}, (∀ x, x ∈ k1 ↔ x ∈ k2) → Wk T k2 used out := by
  induction h with
  | done e => exact fun hk => .done (by rw [← rdy_same hk]; exact e)
  | step e _ ih => exact fun hk => .step (by rw [← rdy_same hk]; exact e) (ih fun x => by rw [List.mem_append, List.mem_append, hk x])
/-- what the steps end with -/
structure Steps (T : List Row) (cols known : List Str) (used : List Row) : Prop where
  nodup : known.Nodup
  from_ : ∀ c ∈ cols, c ∈ known
  least : ∀ S, Closed T S → (∀ c ∈ cols, c ∈ S) → ∀ c ∈ known, c ∈ S
  closed : Closed T known
  un : (used.map Row.nm).Nodup
  usd : ∀ r, r ∈ used ↔ r ∈ T ∧ okr known r = true
  wk : Wk T cols [] used
  kn : ∀ c, c ∈ known ↔ c ∈ cols ∨ ∃ r ∈ used, c ∈ r.cols
/-- within the loop -/
structure Going (T : List Row) (cols known : List Str) (used left : List Row) : Prop where
  nodup : known.Nodup
  from_ : ∀ c ∈ cols, c ∈ known
  least : ∀ S, Closed T S → (∀ c ∈ cols, c ∈ S) → ∀ c ∈ known, c ∈ S
  un : (used.map Row.nm).Nodup
  ln : (left.map Row.nm).Nodup
  apart : ∀ r ∈ used, ∀ s ∈ left, r.nm ≠ s.nm
  usd : ∀ r ∈ used, r ∈ T ∧ okr known r = true ∧ ∀ c ∈ r.cols, c ∈ known
  lft : ∀ r ∈ left, r ∈ T
  lk : ∀ r ∈ left, r.keyOf.isSome = true
  all : ∀ r ∈ T, r.keyOf.isSome = true → r ∈ left ∨ r ∈ used
  few : known.length + 4 * left.length ≤ 200
  eq : left = T.filter fun r => r.keyOf.isSome && decide (r.nm ∉ used.map Row.nm)
  back : ∀ out, Wk T known used out → Wk T cols [] out
  kn : ∀ c, c ∈ known ↔ c ∈ cols ∨ ∃ r ∈ used, c ∈ r.cols
theorem Going.ready {T : List Row} {cols known : List Str} {used left : List Row} (G : Going T cols known used left) : left.filter (okr known) = rdy T known used := by
  have e : left.filter (okr known) = (T.filter fun r => r.keyOf.isSome && decide (r.nm ∉ used.map Row.nm)).filter (okr known) := congrArg (List.filter (okr known)) G.eq
  rw [e, List.filter_filter]
  unfold rdy
  refine List.filter_congr fun r _ => ?_
  cases o : okr known r with
  | false => rfl
  | true =>
    obtain ⟨ks, e, _⟩ := okr_iff.mp o
    rw [e]
    rfl
theorem Going.done {T : List Row} {cols known : List Str} {used left : List Row} (G : Going T cols known used left) (h : left.filter (okr known) = []) : Steps T cols known used where
  nodup := G.nodup
  from_ := G.from_
  least := G.least
  un := G.un
  wk := G.back _ (.done (by rw [← G.ready]; exact h))
  kn := G.kn
  closed := fun r hr ks e hk => by
    rcases G.all r hr (by rw [e]; rfl) with z | z
    · have := List.mem_filter.mpr ⟨z, okr_iff.mpr ⟨ks, e, hk⟩⟩
      rw [h] at this; cases this
    · exact (G.usd r z).2.2
  usd := fun r => ⟨fun z => ⟨(G.usd r z).1, (G.usd r z).2.1⟩, fun ⟨hr, o⟩ => by
    obtain ⟨ks, e, hk⟩ := okr_iff.mp o
    rcases G.all r hr (by rw [e]; rfl) with z | z
    · have := List.mem_filter.mpr ⟨z, o⟩
      rw [h] at this; cases this
    · exact z⟩
theorem Going.turn {T : List Row} {cols known : List Str} {used left : List Row} (G : Going T cols known used left) (n : (T.map Row.nm).Nodup) (c4 : ∀ r ∈ T, r.cols.length ≤ 4) {r0 : Row} {rest : List Row} (h : left.filter (okr known) = r0 :: rest) :
    Going T cols (addAll known r0.cols) (used ++ [r0]) (left.filter fun r => decide (r.nm ≠ r0.nm)) ∧ (left.filter fun r => decide (r.nm ≠ r0.nm)).length < left.length ∧ r0 ∈ left ∧ okr known r0 = true := by
  have hm : r0 ∈ left.filter (okr known) := by rw [h]; exact List.mem_cons_self ..
  obtain ⟨hl, ho⟩ := List.mem_filter.mp hm
  obtain ⟨a1, a2, a3⟩ := addAll_spec r0.cols known G.nodup
  have sub : ∀ x ∈ known, x ∈ addAll known r0.cols := fun x hx => (a2 x).mpr (.inl hx)
  have hlt : (left.filter fun r => decide (r.nm ≠ r0.nm)).length < left.length :=
    List.length_filter_lt_length_iff_exists.mpr ⟨r0, hl, by simp⟩
  refine ⟨⟨a1, fun c hc => sub c (G.from_ c hc), fun S hS hc c hcn => ?_, ?_, (List.filter_sublist.map Row.nm).nodup G.ln, ?_, ?_, fun r hr => G.lft r (List.mem_filter.mp hr).1, fun r hr => G.lk r (List.mem_filter.mp hr).1, fun r hr hk => ?_, ?_, ?_, fun out hw => ?_, fun c => ?_⟩, hlt, hl, ho⟩
  · rcases (a2 c).mp hcn with z | z
    · exact G.least S hS hc c z
    · obtain ⟨ks, e, hk⟩ := okr_iff.mp ho
      exact hS r0 (G.lft r0 hl) ks e (fun k hkk => G.least S hS hc k (hk k hkk)) c z
  · rw [List.map_append, List.nodup_append]
    refine ⟨G.un, by simp, fun x hx y hy e => ?_⟩
    obtain ⟨u, hu, rfl⟩ := List.mem_map.mp hx
    simp at hy
    exact G.apart u hu r0 hl (e.trans hy)
  · intro r hr s hs
    obtain ⟨hs1, hs2⟩ := List.mem_filter.mp hs
    rcases List.mem_append.mp hr with z | z
    · exact G.apart r z s hs1
    · rw [List.mem_singleton.mp z]
      exact fun e => (of_decide_eq_true hs2) e.symm
  · intro r hr
    rcases List.mem_append.mp hr with z | z
    · obtain ⟨u1, u2, u3⟩ := G.usd r z
      exact ⟨u1, okr_mono sub u2, fun c hc => sub c (u3 c hc)⟩
    · rw [List.mem_singleton.mp z]
      exact ⟨G.lft r0 hl, okr_mono sub ho, fun c hc => (a2 c).mpr (.inr hc)⟩
  · rcases G.all r hr hk with z | z
    · by_cases e : r.nm = r0.nm
      · exact .inr (List.mem_append.mpr (.inr (by rw [nm_inj n hr (G.lft r0 hl) e]; simp)))
      · exact .inl (List.mem_filter.mpr ⟨z, decide_eq_true e⟩)
    · exact .inr (List.mem_append.mpr (.inl z))
  · have := G.few
    have := c4 r0 (G.lft r0 hl)
    omega
  · have e : (left.filter fun r => decide (r.nm ≠ r0.nm)) = (T.filter fun r => r.keyOf.isSome && decide (r.nm ∉ used.map Row.nm)).filter fun r => decide (r.nm ≠ r0.nm) := congrArg (List.filter fun r => decide (r.nm ≠ r0.nm)) G.eq
    rw [e, List.filter_filter]
    refine List.filter_congr fun r _ => ?_
    rw [List.map_append, Bool.eq_iff_iff]
    simp only [Bool.and_eq_true, decide_eq_true_eq, List.mem_append, List.map_cons, List.map_nil, List.mem_singleton, not_or]
    exact ⟨fun ⟨a, b, c⟩ => ⟨b, c, a⟩, fun ⟨b, c, a⟩ => ⟨a, b, c⟩⟩
  · exact G.back out (.step (by rw [← G.ready]; exact h) (hw.congr fun x => by rw [a2 x, List.mem_append]))
  · rw [a2 c, G.kn c]
    constructor
    · rintro ((z | ⟨r, hr, z⟩) | z)
      · exact .inl z
      · exact .inr ⟨r, List.mem_append.mpr (.inl hr), z⟩
      · exact .inr ⟨r0, by simp, z⟩
    · rintro (z | ⟨r, hr, z⟩)
      · exact .inl (.inl z)
      · rcases List.mem_append.mp hr with q | q
        · exact .inl (.inr ⟨r, q, z⟩)
        · rw [List.mem_singleton.mp q] at z
          exact .inr z
end Lw
set_option Elab.async false
set_option linter.all false
set_option maxRecDepth 100000
set_option maxHeartbeats 4000000
/-! closures: the walk of the loop -/
namespace Lw
open PySem L2 Ft
abbrev csBody : SV := (svSeq (svSet 6 (evLc (ivOf (evVar 5)) (gtName 8) (tst (evOps dAll (avCons (evLc (ivOf (evOp2 dIx (evFld [0] 0 (evVar 0)) (evVar 8))) (gtName 7) (bvYes) (evOp2 dIn (evVar 7) (evVar 3)) [7]) (avNil)))) (evVar 8) [8])) (svSeq (svIf (tst (evOp2 dEq (evVar 6) (evLst (gvNil)))) (svRet (evTup (gvCons (evVar 4) (gvCons (evVar 3) (gvNil))))) (svNext)) (svSeq (svExpr (evMth .lst 4 mAppend (gvCons (evOp2 dIx (evVar 6) (evC (.int 0))) (gvNil)))) (svSeq (svExpr (evMth .dct 3 mUpdate (gvCons (evDc (ivOf (evOp2 dIx (evFld [0] 1 (evVar 0)) (evOp2 dIx (evVar 6) (evC (.int 0))))) (gtName 7) (bvYes) (evVar 7) (evC (.bl true)) [7]) (gvNil)))) (svSet 5 (evLc (ivOf (evVar 5)) (gtName 8) (tst (evOp2 dNe (evVar 8) (evOp2 dIx (evVar 6) (evC (.int 0))))) (evVar 8) [8]))))))
theorem dcKn {ρ : Rho} {fk fv : EV} {g : GT} {vs : List Nat} {xs : List Str} (n : xs.Nodup) (h : ∀ x ∈ xs, dcStep g bvYes fk fv vs (.str x) ρ = .ok (some (.inr x, .bl true), ρ)) : dcLoop g bvYes fk fv vs (ss xs) [] ρ = .ok (xs.map fun c => ((.inr c : Key), D.bl true), ρ) :=
  dc_new (em := D.str) (fun c : Str => ((.inr c : Key), D.bl true)) xs (inrs_nodup n) h
theorem scf0 (rows : List Row) : List.lookup 0 (scF rows) = some (kvS (kyR rows)) := rfl
theorem scf1 (rows : List Row) : List.lookup 1 (scF rows) = some (kvS (clR rows)) := rfl
theorem scf2 (rows : List Row) : List.lookup 2 (scF rows) = some (.tup (ss (rows.map Row.nm))) := rfl
theorem scf3 (rows : List Row) : List.lookup 3 (scF rows) = some (.tup (ss ((rows.filter Row.chg).map Row.nm))) := rfl
theorem scf4 (rows : List Row) : List.lookup 4 (scF rows) = some (.tup (ss (everyOf rows))) := rfl
theorem lc_rows {g : GT} {tt : BV} {f : EV} {vs : List Nat} {ρ : Rho} (left : List Row) (p : Row → Bool) (h : ∀ r ∈ left, lcStep g tt f vs (.str r.nm) ρ = .ok (if p r = true then some (.str r.nm) else none, ρ)) : lcLoop g tt f vs (ss (left.map Row.nm)) ρ = .ok (ss ((left.filter p).map Row.nm), ρ) := by
  have := lc_filter (em := D.str ∘ Row.nm) p (D.str ∘ Row.nm) left h
  rw [ss_eq, ss_eq, List.map_map, List.map_map]
  exact this
@[simp] theorem fldK_sc (rows : List Row) (k : Nat) (ρ : Rho) : fldK [0] k ρ (scD rows) = (Res.of ((scF rows).lookup k)).bind fun x => .ok (.val x, ρ) := by
  unfold scD
  rw [fldK_obj]
  rfl
theorem steps {rows T : List Row} (M : Made rows) (hT : ∀ r ∈ T, r ∈ rows) (aT : Asc (T.map Row.nm)) {cols : List Str} (nc : cols.Nodup) (lc : cols.length ≤ 100) : ∃ known used, fn_closing_steps [scD rows, .tup (ss cols), .tup (ss (T.map Row.nm))] = .ok (.val (.tup [.lst (ss (used.map Row.nm)), kn known]), []) ∧ Steps T cols known used := by
  have nT := asc_nodup aT
  have lT : T.length ≤ 6 := by
    have := nodup_len nT (ys := rows.map Row.nm) fun x hx => by
      obtain ⟨r, hr, rfl⟩ := List.mem_map.mp hx
      exact List.mem_map.mpr ⟨r, hT r hr, rfl⟩
    simp at this
    have := M.L.six
    omega
  have c4 : ∀ r ∈ T, r.cols.length ≤ 4 := fun r hr => M.L.c4 r (hT r hr)
  let st : List Str → List Row → Slot → Slot → Rho := fun known used s5 s6 => [.sh (scD rows), .sh (.tup (ss cols)), .sh (.tup (ss (T.map Row.nm))), .ow (kn known), .ow (.lst (ss (used.map Row.nm))), s5, s6, .no, .no]
  have W := while_inv (c := tst (evC (.bl true))) (body := csBody)
    (fun m ρ => ∃ known used left s6, Going T cols known used left ∧ left.length ≤ m ∧ Slot.soft s6 ∧ ρ = st known used (.ow (.lst (ss (left.map Row.nm)))) s6)
    (fun o ρ => ∃ known used, Steps T cols known used ∧ o = .ret (.val (.tup [.lst (ss (used.map Row.nm)), kn known])))
    (by
      rintro m ρ ⟨known, used, left, s6, G, hm, f6, rfl⟩
      refine .inr ⟨_, rfl, ?_⟩
      have ll : left.length ≤ 50 := by have := G.few; omega
      -- what is ready
      have r1 : lcLoop (gtName 8) (tst (evOps dAll (avCons (evLc (ivOf (evOp2 dIx (evFld [0] 0 (evVar 0)) (evVar 8))) (gtName 7) (bvYes) (evOp2 dIn (evVar 7) (evVar 3)) [7]) (avNil)))) (evVar 8) [8] (ss (left.map Row.nm)) (st known used (.sh (.lst (ss (left.map Row.nm)))) s6) = .ok (ss ((left.filter (okr known)).map Row.nm), st known used (.sh (.lst (ss (left.map Row.nm)))) s6) := by
        refine lc_rows left (okr known) fun r hr => ?_
        obtain ⟨ks, hk⟩ := Option.isSome_iff_exists.mp (G.lk r hr)
        have hrr := hT r (G.lft r hr)
        have h1 := M.ix_key hrr hk
        have kl : ks.length ≤ 1000000 := by
          obtain ⟨n, s⟩ := M.L.key r hrr ks (by
            unfold Row.keyOf at hk
            split at hk
            · rename_i k q; cases hk; exact q
            · cases hk)
          have := nodup_len n s
          have := M.L.c4 r hrr
          omega
        have h2 : lcLoop (gtName 7) bvYes (evOp2 dIn (evVar 7) (evVar 3)) [7] (ss ks) [.sh (scD rows), .sh (.tup (ss cols)), .sh (.tup (ss (T.map Row.nm))), .ow (kn known), .ow (.lst (ss (used.map Row.nm))), .sh (.lst (ss (left.map Row.nm))), s6, .no, .sh (.str r.nm)] = .ok (ks.map fun k => D.bl (decide (k ∈ known)), [.sh (scD rows), .sh (.tup (ss cols)), .sh (.tup (ss (T.map Row.nm))), .ow (kn known), .ow (.lst (ss (used.map Row.nm))), .sh (.lst (ss (left.map Row.nm))), s6, .no, .sh (.str r.nm)]) :=
          lc_map (em := D.str) _ ks fun x hx => by simp -implicitDefEqProofs [lcStep]
        have h3 : dAll [.lst (ks.map fun k => D.bl (decide (k ∈ known)))] = some (.val (.bl (okr known r))) := by
          rw [dAll_map]
          unfold okr
          rw [hk]
        cases ho : okr known r with
        | true =>
          rw [ho] at h3
          simp -implicitDefEqProofs [-List.map_map, lcStep, st, scf0, h1, h2, h3, kl, ss_len]
        | false =>
          rw [ho] at h3
          simp -implicitDefEqProofs [-List.map_map, lcStep, st, scf0, h1, h2, h3, kl, ss_len]
      have rl : (left.filter (okr known)).length ≤ 50 := by
        have := List.length_filter_le (okr known) left
        omega
      have ll6 : (left.map Row.nm).length ≤ 1000000 := by rw [List.length_map]; omega
      cases hf : left.filter (okr known) with
      | nil =>
        refine .inr ⟨.val (.tup [.lst (ss (used.map Row.nm)), kn known]), [.sh (scD rows), .sh (.tup (ss cols)), .sh (.tup (ss (T.map Row.nm))), .sh (kn known), .sh (.lst (ss (used.map Row.nm))), .sh (.lst (ss (left.map Row.nm))), .ow (.lst []), .no, .no], ?_, known, used, G.done hf, rfl⟩
        rw [hf] at r1
        simp only [st] at r1
        simp -implicitDefEqProofs [-List.map_map, -List.length_map, st, r1, ll6, storeAt_soft, f6]
      | cons r0 rest =>
        obtain ⟨G2, hlt, hl0, ho⟩ := G.turn nT c4 hf
        have hr0 := hT r0 (G.lft r0 hl0)
        have c40 := M.L.c4 r0 hr0
        refine .inl ⟨m - 1, st (addAll known r0.cols) (used ++ [r0]) (.ow (.lst (ss ((left.filter fun r => decide (r.nm ≠ r0.nm)).map Row.nm)))) (.ow (.lst (ss ((r0 :: rest).map Row.nm)))), ?_, by omega, _, _, _, _, G2, by omega, soft_ow _, rfl⟩
        rw [hf] at r1
        simp only [st] at r1
        have ul : used.length < 1000000 := by
          have := nodup_len G.un (ys := T.map Row.nm) fun x hx => by
            obtain ⟨r, hr, rfl⟩ := List.mem_map.mp hx
            exact List.mem_map.mpr ⟨r, (G.usd r hr).1, rfl⟩
          simp at this
          omega
        have h0 : dIx (.lst (ss ((r0 :: rest).map Row.nm))) (.int 0) = some (.val (.str r0.nm)) := dIx_at _ 0 _ rfl
        have h1 := M.ix_cols hr0
        have h2 : dcLoop (gtName 7) bvYes (evVar 7) (evC (.bl true)) [7] (ss r0.cols) [] [.sh (scD rows), .sh (.tup (ss cols)), .sh (.tup (ss (T.map Row.nm))), .ow (kn known), .ow (.lst (ss (used.map Row.nm ++ [r0.nm]))), .sh (.lst (ss (left.map Row.nm))), .ow (.lst (ss ((r0 :: rest).map Row.nm))), .no, .no] = .ok (r0.cols.map fun c => ((.inr c : Key), D.bl true), [.sh (scD rows), .sh (.tup (ss cols)), .sh (.tup (ss (T.map Row.nm))), .ow (kn known), .ow (.lst (ss (used.map Row.nm ++ [r0.nm]))), .sh (.lst (ss (left.map Row.nm))), .ow (.lst (ss ((r0 :: rest).map Row.nm))), .no, .no]) :=
          dcKn (M.L.cn r0 hr0) fun x hx => by simp -implicitDefEqProofs [dcStep]
        have h3 : D.dct (r0.cols.map fun c => ((.inr c : Key), D.bl true)) = kn r0.cols := (kn_eq _).symm
        have h4 := update_kn (known := known) (cols := r0.cols) (by have := G.few; omega)
        have h5 : lcLoop (gtName 8) (tst (evOp2 dNe (evVar 8) (evOp2 dIx (evVar 6) (evC (.int 0))))) (evVar 8) [8] (ss (left.map Row.nm)) [.sh (scD rows), .sh (.tup (ss cols)), .sh (.tup (ss (T.map Row.nm))), .ow (kn (addAll known r0.cols)), .ow (.lst (ss (used.map Row.nm ++ [r0.nm]))), .sh (.lst (ss (left.map Row.nm))), .ow (.lst (ss ((r0 :: rest).map Row.nm))), .no, .no] = .ok (ss ((left.filter fun r => decide (r.nm ≠ r0.nm)).map Row.nm), [.sh (scD rows), .sh (.tup (ss cols)), .sh (.tup (ss (T.map Row.nm))), .ow (kn (addAll known r0.cols)), .ow (.lst (ss (used.map Row.nm ++ [r0.nm]))), .sh (.lst (ss (left.map Row.nm))), .ow (.lst (ss ((r0 :: rest).map Row.nm))), .no, .no]) :=
          lc_rows left _ fun r hr => by
            by_cases e : r.nm = r0.nm
            · simp -implicitDefEqProofs [-List.map_cons, lcStep, h0, e]
            · simp -implicitDefEqProofs [-List.map_cons, lcStep, h0, e]
        have h6 : mAppend (.lst (ss (used.map Row.nm))) [.str r0.nm] = some (.lst (ss (used.map Row.nm ++ [r0.nm])), .non) := by
          unfold mAppend
          simp only [ss_len, List.length_map]
          rw [if_pos ul, ← ss_app]
          rfl
        have cl : r0.cols.length ≤ 1000000 := by omega
        have hne : (r0 :: rest).map Row.nm ≠ [] := by simp
        have e9 : (used ++ [r0]).map Row.nm = used.map Row.nm ++ [r0.nm] := by rw [List.map_append]; rfl
        simp only [st]
        rw [e9]
        generalize (r0 :: rest).map Row.nm = RD at *
        simp -implicitDefEqProofs [-List.map_map, -List.length_map, r1, ll6, storeAt_soft, f6, hne, h0, h1, h2, h3, h4, h5, h6, scf1, cl])
    T.length 1000000 (st cols [] (.ow (.lst (ss ((T.filter fun r => r.keyOf.isSome).map Row.nm)))) .no) ⟨cols, [], T.filter fun r => r.keyOf.isSome, .no, {
      nodup := nc
      from_ := fun _ h => h
      least := fun S _ h => h
      un := List.nodup_nil
      ln := (List.filter_sublist.map Row.nm).nodup nT
      apart := fun r h => nomatch h
      usd := fun r h => nomatch h
      lft := fun r h => (List.mem_filter.mp h).1
      lk := fun r h => (List.mem_filter.mp h).2
      all := fun r hr h => .inl (List.mem_filter.mpr ⟨hr, h⟩)
      few := by have := List.length_filter_le (fun r : Row => r.keyOf.isSome) T; omega
      eq := List.filter_congr fun r _ => by simp
      back := fun out h => h
      kn := fun c => ⟨fun h => .inl h, fun h => h.elim id fun ⟨r, h, _⟩ => nomatch h⟩ }, List.length_filter_le .., soft_no, rfl⟩ (by omega)
  obtain ⟨o, ρ', e, known, used, S, rfl⟩ := W
  refine ⟨known, used, ?_, S⟩
  simp only [st] at e
  have h1 : dcLoop (gtName 7) bvYes (evVar 7) (evC (.bl true)) [7] (ss cols) [] [.sh (scD rows), .sh (.tup (ss cols)), .sh (.tup (ss (T.map Row.nm))), .no, .no, .no, .no, .no, .no] = .ok (cols.map fun c => ((.inr c : Key), D.bl true), [.sh (scD rows), .sh (.tup (ss cols)), .sh (.tup (ss (T.map Row.nm))), .no, .no, .no, .no, .no, .no]) :=
    dcKn nc fun x hx => by simp -implicitDefEqProofs [dcStep]
  have h2 : D.dct (cols.map fun c => ((.inr c : Key), D.bl true)) = kn cols := (kn_eq _).symm
  have h3 : lcLoop (gtName 8) (tst (evOp2 dIn (evVar 8) (evFld [0] 0 (evVar 0)))) (evVar 8) [8] (ss (T.map Row.nm)) [.sh (scD rows), .sh (.tup (ss cols)), .sh (.tup (ss (T.map Row.nm))), .ow (kn cols), .ow (.lst []), .no, .no, .no, .no] = .ok (ss ((T.filter fun r => r.keyOf.isSome).map Row.nm), [.sh (scD rows), .sh (.tup (ss cols)), .sh (.tup (ss (T.map Row.nm))), .ow (kn cols), .ow (.lst []), .no, .no, .no, .no]) :=
    lc_rows T _ fun r hr => by
      have h5 : dInB (.str r.nm) (kvS (kyR rows)) = some r.keyOf.isSome := by rw [kvS_in, M.in_key (hT r hr)]
      cases hk : r.keyOf.isSome with
      | true =>
        rw [hk] at h5
        simp -implicitDefEqProofs [-kvS_in, lcStep, scf0, h5]
      | false =>
        rw [hk] at h5
        simp -implicitDefEqProofs [-kvS_in, lcStep, scf0, h5]
  have h4 : sortS (T.map Row.nm) = T.map Row.nm := sortS_of_asc aT
  have lT2 : (T.map Row.nm).length ≤ 1000000 := by rw [List.length_map]; omega
  have lc2 : cols.length ≤ 1000000 := by omega
  have e0 : (ss (List.map Row.nm [])) = [] := rfl
  rw [e0] at e
  simp -implicitDefEqProofs [-List.map_map, -List.length_map, fn_closing_steps, fnOf_app, b_closing_steps, h1, h2, h3, h4, lT2, lc2, e]
end Lw
set_option Elab.async false
set_option linter.all false
set_option maxRecDepth 100000
set_option maxHeartbeats 4000000
/-! closures: what is asked for, and the answers -/
namespace Lw
open PySem L2 Ft
theorem asc_zip : ∀ {xs : List Str}, Asc xs → ∀ p ∈ xs.zip (xs.drop 1), sLt p.1 p.2 = true
  | [], _, _, h => by simp at h
  | [x], _, _, h => by simp at h
  | x :: y :: xs, a, p, h => by
    unfold Asc at a
    rw [List.pairwise_cons] at a
    simp only [List.drop_succ_cons, List.drop_zero, List.zip_cons_cons, List.mem_cons] at h
    rcases h with rfl | h
    · exact a.1 y (List.mem_cons_self ..)
    · exact asc_zip (xs := y :: xs) a.2 p (by simpa using h)
theorem zipD_ss (xs ys : List Str) : zipD (ss xs) (ss ys) = (xs.zip ys).map fun p => .tup [.str p.1, .str p.2] := by
  unfold zipD ss
  rw [List.zip_map, List.map_map]
  rfl
theorem cut_drop {α : Type} (xs : List α) : cut xs (some 1) none = xs.drop 1 := by
  unfold cut
  rw [show (1 : Int) = ((1 : Nat) : Int) from rfl, HT.sIx_nat, HT.sIx_none]
  cases xs with
  | nil => rfl
  | cons x xs => simp
theorem is_cols {xs : List Str} (a : Asc xs) (hn : ∀ x ∈ xs, IsName x) (hl : xs.length ≤ 1000) : fn_is_columns [.tup (ss xs)] = .ok (.val (.bl true), []) := by
  have h1 : lcLoop (gtName 1) bvYes (evCall [false] fn_is_name [] (cvFr (evVar 1) (cvNil))) [1] (ss xs) [.sh (.tup (ss xs)), .no, .no] = .ok (xs.map fun _ => D.bl true, [.sh (.tup (ss xs)), .no, .no]) :=
    lc_map (em := D.str) _ xs fun x hx => by
      have := hn x hx
      unfold IsName at this
      simp -implicitDefEqProofs [lcStep, this]
  have h2 : lcLoop (gtTup 2 (gtCons (gtName 1) (gtCons (gtName 2) (gtNil)))) bvYes (evOp2 dLt (evVar 1) (evVar 2)) [1, 2] (zipD (ss xs) (ss (xs.drop 1))) [.sh (.tup (ss xs)), .no, .no] = .ok ((xs.zip (xs.drop 1)).map fun _ => D.bl true, [.sh (.tup (ss xs)), .no, .no]) := by
    rw [zipD_ss]
    exact lc_map (em := fun p : Str × Str => D.tup [.str p.1, .str p.2]) _ _ fun p hp => by
      have h := asc_zip a p hp
      have e : dLt (.str p.1) (.str p.2) = some (.val (.bl (sLt p.1 p.2))) := rfl
      rw [h] at e
      simp -implicitDefEqProofs [lcStep, e]
  have hl2 : xs.length ≤ 1000000 := by omega
  have hz : (zipD (ss xs) (ss (xs.drop 1))).length ≤ 1000000 := by
    rw [zipD_ss, List.length_map, List.length_zip]; omega
  have hz2 : (D.lst ((xs.zip (xs.drop 1)).map fun _ => D.bl true)) = (D.lst ((xs.zip (xs.drop 1)).map fun _ => D.bl true)) := rfl
  have hc : cut xs (some 1) none = xs.drop 1 := cut_drop xs
  simp -implicitDefEqProofs [-List.drop_one, fn_is_columns, fnOf_app, b_is_columns, h1, h2, hl2, hz, hc]
theorem sc_contains {rows : List Row} {x : Str} : fn_Scenedd_containsdd [scD rows, .str x] = .ok (.val (.bl (decide (x ∈ (clR rows).map (·.1)))), []) := by
  simp -implicitDefEqProofs [-List.mem_map, fn_Scenedd_containsdd, fnOf_app, b_Scenedd_containsdd, scf1]
theorem mem_clR {rows : List Row} {x : Str} : x ∈ (clR rows).map (·.1) ↔ x ∈ rows.map Row.nm := by
  unfold clR
  rw [List.map_map]
  exact Iff.rfl
@[simp] theorem recvK_sc (rows : List Row) (g : CV) (ρ : Rho) : recvK [0] g (scD rows, ρ) = (g ρ).bind fun p => .ok (.fr (scD rows) :: p.1, p.2) := by
  unfold scD
  rw [recvK_obj]
  rfl
@[simp] theorem inK_sc (neg : Bool) (fn : FnV) (x : D) (rows : List Row) (ρ : Rho) : inK neg [0] fn x (scD rows, ρ) = (fn [scD rows, x]).bind (inOut neg ρ) := by
  unfold scD
  rw [inK_obj]
  rfl
@[simp] theorem isC_sc (rows : List Row) : isC 0 (scD rows) = some true := rfl
theorem are_tabs {rows : List Row} {xs : List Str} (a : Asc xs) (hn : ∀ x ∈ xs, IsName x) (hs : ∀ x ∈ xs, x ∈ rows.map Row.nm) (hl : xs.length ≤ 1000) : fn_are_tables [scD rows, .tup (ss xs)] = .ok (.val (.bl true), []) := by
  have h0 := is_cols a hn hl
  have h1 : lcLoop (gtName 2) bvYes (evIn false [0] fn_Scenedd_containsdd (evVar 2) (evVar 0)) [2] (ss xs) [.sh (scD rows), .sh (.tup (ss xs)), .no] = .ok (xs.map fun _ => D.bl true, [.sh (scD rows), .sh (.tup (ss xs)), .no]) :=
    lc_map (em := D.str) _ xs fun x hx => by
      have h := sc_contains (rows := rows) (x := x)
      rw [decide_eq_true (mem_clR.mpr (hs x hx))] at h
      simp -implicitDefEqProofs [lcStep, h]
  have hl2 : xs.length ≤ 1000000 := by omega
  simp -implicitDefEqProofs [fn_are_tables, fnOf_app, b_are_tables, h0, h1, hl2]
theorem mem_every {rows : List Row} {c : Str} : c ∈ everyOf rows ↔ ∃ r ∈ rows, c ∈ r.cols := by
  unfold everyOf
  rw [mem_sortS, mem_dedup, List.mem_flatMap]
/-- the closure, and what is reached -/
structure Clo (T : List Row) (cols K : List Str) : Prop where
  asc : Asc K
  from_ : ∀ c ∈ cols, c ∈ K
  closed : Closed T K
  least : ∀ S, Closed T S → (∀ c ∈ cols, c ∈ S) → ∀ c ∈ K, c ∈ S
theorem Clo.uniq {T : List Row} {cols K K' : List Str} (a : Clo T cols K) (b : Clo T cols K') : K = K' :=
  asc_same a.asc b.asc fun x => ⟨a.least K' b.closed b.from_ x, b.least K a.closed a.from_ x⟩
theorem clo_of {T : List Row} {cols known : List Str} {used : List Row} (S : Steps T cols known used) : Clo T cols (sortS known) where
  asc := sortS_asc S.nodup
  from_ := fun c hc => mem_sortS.mpr (S.from_ c hc)
  closed := fun r hr ks e hk c hc => mem_sortS.mpr (S.closed r hr ks e (fun k h => mem_sortS.mp (hk k h)) c hc)
  least := fun Z hZ hc c h => S.least Z hZ hc c (mem_sortS.mp h)
theorem closure_in_ok {rows T : List Row} (M : Made rows) (hT : ∀ r ∈ T, r ∈ rows) (aT : Asc (T.map Row.nm)) {cols : List Str} (nc : cols.Nodup) (lc : cols.length ≤ 100) : ∃ K, Clo T cols K ∧ fn_closure_in [scD rows, .tup (ss cols), .tup (ss (T.map Row.nm))] = .ok (.val (.tup (ss K)), []) := by
  obtain ⟨known, used, e, S⟩ := steps M hT aT nc lc
  refine ⟨sortS known, clo_of S, ?_⟩
  simp -implicitDefEqProofs [fn_closure_in, fnOf_app, b_closure_in, e]
theorem filter_nil {xs S : List Str} : (xs.filter fun c => decide (c ∉ S)) = [] ↔ ∀ c ∈ xs, c ∈ S := by
  rw [List.filter_eq_nil_iff]
  simp
theorem lc_out8 {k : Nat} {ρ : Rho} {S : List Str} (xs : List Str) (h : ∀ x ∈ xs, lcStep (gtName 8) (tst (evOp2 dNotIn (evVar 8) (evVar k))) (evVar 8) [8] (.str x) ρ = .ok (if decide (x ∉ S) = true then some (.str x) else none, ρ)) : lcLoop (gtName 8) (tst (evOp2 dNotIn (evVar 8) (evVar k))) (evVar 8) [8] (ss xs) ρ = .ok (ss (xs.filter fun c => decide (c ∉ S)), ρ) :=
  lc_filter (em := D.str) (fun c => decide (c ∉ S)) D.str xs h
end Lw
set_option Elab.async false
set_option linter.all false
set_option maxRecDepth 100000
set_option maxHeartbeats 4000000
/-! the law's own closure: rounds over all tables -/
namespace Lw
open PySem L2 Ft
def fire (S : List Str) (r : Row) : List Str := if okr S r = true then S ++ r.cols.filter (fun c => decide (c ∉ S)) else S
def rnd (T : List Row) (S : List Str) : List Str := T.foldl fire S
theorem fire_sub (S : List Str) (r : Row) : ∀ c ∈ S, c ∈ fire S r := fun c hc => by
  unfold fire
  split
  · exact List.mem_append.mpr (.inl hc)
  · exact hc
theorem fire_cols {S : List Str} {r : Row} (o : okr S r = true) : ∀ c ∈ r.cols, c ∈ fire S r := fun c hc => by
  unfold fire
  rw [if_pos o, List.mem_append]
  by_cases h : c ∈ S
  · exact .inl h
  · exact .inr (List.mem_filter.mpr ⟨hc, decide_eq_true h⟩)
theorem fire_least {Z S : List Str} {T : List Row} (hZ : Closed T Z) {r : Row} (hr : r ∈ T) (hs : ∀ c ∈ S, c ∈ Z) : ∀ c ∈ fire S r, c ∈ Z := fun c hc => by
  unfold fire at hc
  split at hc
  · rename_i o
    rcases List.mem_append.mp hc with h | h
    · exact hs c h
    · obtain ⟨ks, e, hk⟩ := okr_iff.mp o
      exact hZ r hr ks e (fun k h2 => hs k (hk k h2)) c (List.mem_filter.mp h).1
  · exact hs c hc
theorem fire_nodup {S : List Str} {r : Row} (n : S.Nodup) (cn : r.cols.Nodup) : (fire S r).Nodup := by
  unfold fire
  split
  · rw [List.nodup_append]
    refine ⟨n, cn.filter _, fun x hx y hy e => ?_⟩
    subst e
    exact of_decide_eq_true (List.mem_filter.mp hy).2 hx
  · exact n
theorem fire_len (S : List Str) (r : Row) : (fire S r).length ≤ S.length + r.cols.length := by
  unfold fire
  split
  · rw [List.length_append]
    have := List.length_filter_le (fun c => decide (c ∉ S)) r.cols
    omega
  · omega
theorem rnd_sub : ∀ (T : List Row) (S : List Str), ∀ c ∈ S, c ∈ rnd T S
  | [], _, c, hc => hc
  | r :: T, S, c, hc => rnd_sub T (fire S r) c (fire_sub S r c hc)
theorem rnd_cols : ∀ (T : List Row) (S : List Str), ∀ r ∈ T, okr S r = true → ∀ c ∈ r.cols, c ∈ rnd T S
  | [], _, r, hr, _, _, _ => nomatch hr
  | a :: T, S, r, hr, o, c, hc => by
    rcases List.mem_cons.mp hr with rfl | h
    · exact rnd_sub T _ c (fire_cols o c hc)
    · exact rnd_cols T (fire S a) r h (okr_mono (fire_sub S a) o) c hc
theorem rnd_least {Z : List Str} {A : List Row} (hZ : Closed A Z) : ∀ (T : List Row) (S : List Str), (∀ r ∈ T, r ∈ A) → (∀ c ∈ S, c ∈ Z) → ∀ c ∈ rnd T S, c ∈ Z
  | [], _, _, hs, c, hc => hs c hc
  | r :: T, S, hT, hs, c, hc => rnd_least hZ T (fire S r) (fun q hq => hT q (List.mem_cons_of_mem _ hq)) (fire_least hZ (hT r (List.mem_cons_self ..)) hs) c hc
theorem rnd_nodup : ∀ (T : List Row) (S : List Str), S.Nodup → (∀ r ∈ T, r.cols.Nodup) → (rnd T S).Nodup
  | [], _, n, _ => n
  | r :: T, S, n, h => rnd_nodup T (fire S r) (fire_nodup n (h r (List.mem_cons_self ..))) fun q hq => h q (List.mem_cons_of_mem _ hq)
/-- the tables that are done -/
def cnt (T : List Row) (S : List Str) : List Row := T.filter fun r => okr S r && r.cols.all fun c => decide (c ∈ S)
theorem closed_same {T : List Row} {S S' : List Str} (h : ∀ x, x ∈ S ↔ x ∈ S') (hc : Closed T S) : Closed T S' := fun r hr ks e hk c hcc => (h c).mp (hc r hr ks e (fun k h2 => (h k).mpr (hk k h2)) c hcc)
theorem rnd_closed {T : List Row} {S : List Str} (h : Closed T S) : Closed T (rnd T S) :=
  closed_same (fun x => ⟨rnd_sub T S x, rnd_least h T S (fun _ z => z) (fun _ z => z) x⟩) h
theorem rnd_more {T : List Row} {S : List Str} (h : ¬ Closed T S) : (cnt T S).length < (cnt T (rnd T S)).length := by
  have hex : ∃ r ∈ T, okr S r = true ∧ ∃ c ∈ r.cols, c ∉ S := by
    refine Classical.byContradiction fun z => h fun r hr ks e hk c hc => Classical.byContradiction fun q => z ⟨r, hr, okr_iff.mpr ⟨ks, e, hk⟩, c, hc, q⟩
  obtain ⟨r, hr, o, c, hc, hn⟩ := hex
  have e : cnt T S = (cnt T (rnd T S)).filter fun r => okr S r && r.cols.all fun c => decide (c ∈ S) := by
    unfold cnt
    rw [List.filter_filter]
    refine List.filter_congr fun q hq => ?_
    cases h1 : (okr S q && q.cols.all fun c => decide (c ∈ S)) with
    | false => rfl
    | true =>
      rw [Bool.and_eq_true, List.all_eq_true] at h1
      rw [Bool.true_and]
      symm
      rw [Bool.and_eq_true, List.all_eq_true]
      exact ⟨okr_mono (rnd_sub T S) h1.1, fun x hx => decide_eq_true (rnd_sub T S x (of_decide_eq_true (h1.2 x hx)))⟩
  rw [e]
  refine List.length_filter_lt_length_iff_exists.mpr ⟨r, List.mem_filter.mpr ⟨hr, ?_⟩, ?_⟩
  · rw [Bool.and_eq_true, List.all_eq_true]
    exact ⟨okr_mono (rnd_sub T S) o, fun x hx => decide_eq_true (rnd_cols T S r hr o x hx)⟩
  · rw [Bool.and_eq_true, List.all_eq_true]
    exact fun z => hn (of_decide_eq_true (z.2 c hc))
abbrev lcBody : SV := (svSeq (svAsg (gtTup 2 (gtCons (gtName 6) (gtCons (gtName 7) (gtNil)))) (evOp2 dIx (evVar 0) (evVar 5))) (svIf (bvAnd (tst (evIsi (isB "tuple") (evVar 7))) (tst (evOp2 dEq (evLc (ivOf (evVar 7)) (gtName 8) (tst (evOp2 dNotIn (evVar 8) (evVar 3))) (evVar 8) [8]) (evLst (gvNil))))) (svSet 3 (evOp2 dAdd (evVar 3) (evLc (ivOf (evVar 6)) (gtName 8) (tst (evOp2 dNotIn (evVar 8) (evVar 3))) (evVar 8) [8]))) (svNext)))
theorem lc_turn {rows : List Row} (nn : (rows.map Row.nm).Nodup) {r : Row} (hr : r ∈ rows) (c4 : r.cols.length ≤ 4) (kl : ∀ ks, r.keyOf = some ks → ks.length ≤ 1000) {S : List Str} (sl : S.length ≤ 900000) {a1 a2 s4 s5 s6 s7 s3 : Slot} (h3 : s3 = .ow (.lst (ss S)) ∨ s3 = .sh (.lst (ss S))) (f4 : Slot.soft s4) (f5 : Slot.soft s5) (f6 : Slot.soft s6) (f7 : Slot.soft s7) :
    ∃ s3', (s3' = .ow (.lst (ss (fire S r))) ∨ s3' = .sh (.lst (ss (fire S r)))) ∧ turn (gtName 5) lcBody (.str r.nm) [.sh (rowsD rows), a1, a2, s3, s4, s5, s6, s7, .no] = .ok (.next, [.sh (rowsD rows), a1, a2, s3', s4, .sh (.str r.nm), .sh (.tup (ss r.cols)), .sh r.kin.d, .no]) := by
  have hd := dIx_row nn hr
  have h2 : ∀ (s3 : Slot) (ks : List Str) (k : D), (s3 = .ow (.lst (ss S)) ∨ s3 = .sh (.lst (ss S))) → lcLoop (gtName 8) (tst (evOp2 dNotIn (evVar 8) (evVar 3))) (evVar 8) [8] (ss ks) [.sh (rowsD rows), a1, a2, s3, s4, .sh (.str r.nm), .sh (.tup (ss r.cols)), .sh k, .no] = .ok (ss (ks.filter fun c => decide (c ∉ S)), [.sh (rowsD rows), a1, a2, s3, s4, .sh (.str r.nm), .sh (.tup (ss r.cols)), .sh k, .no]) := fun s3 ks k h3 =>
    lc_out8 ks fun x _ => by
      rcases h3 with rfl | rfl <;> by_cases h : x ∈ S <;> simp -implicitDefEqProofs [lcStep, h]
  have cl : r.cols.length ≤ 1000000 := by omega
  have hadd : dAdd (.lst (ss S)) (.lst (ss (r.cols.filter fun c => decide (c ∉ S)))) = some (.tmp (.lst (ss (S ++ r.cols.filter fun c => decide (c ∉ S))))) := by
    rw [← ss_app]
    refine if_pos ?_
    have := List.length_filter_le (fun c => decide (c ∉ S)) r.cols
    simp only [ss_len]
    omega
  obtain ⟨nm, cols, kin⟩ := r
  cases kin with
  | chg =>
    have o : fire S ⟨nm, cols, .chg⟩ = S := rfl
    rw [o]
    refine ⟨s3, h3, ?_⟩
    rcases h3 with rfl | rfl <;> simp -implicitDefEqProofs [turn, storeAt_soft, f5, f6, f7, hd, Row.pair, Kin.d]
  | fix =>
    have o : fire S ⟨nm, cols, .fix⟩ = S := rfl
    rw [o]
    refine ⟨s3, h3, ?_⟩
    rcases h3 with rfl | rfl <;> simp -implicitDefEqProofs [turn, storeAt_soft, f5, f6, f7, hd, Row.pair, Kin.d]
  | key ks =>
    have kl2 : ks.length ≤ 1000000 := by have := kl ks rfl; omega
    by_cases o : okr S ⟨nm, cols, .key ks⟩ = true
    · have hk : (ks.filter fun c => decide (c ∉ S)) = [] := by
        obtain ⟨ks', e, z⟩ := okr_iff.mp o
        cases e
        exact filter_nil.mpr z
      have of : fire S ⟨nm, cols, .key ks⟩ = S ++ cols.filter (fun c => decide (c ∉ S)) := if_pos o
      rw [of]
      refine ⟨.ow (.lst (ss (S ++ cols.filter (fun c => decide (c ∉ S))))), .inl rfl, ?_⟩
      have h4 := h2 s3 ks (.tup (ss ks)) h3
      rw [hk] at h4
      have h5 := h2 s3 cols (.tup (ss ks)) h3
      have hadd : dAdd (.lst (ss S)) (.lst (ss (cols.filter fun c => decide (c ∉ S)))) = some (.tmp (.lst (ss (S ++ cols.filter fun c => decide (c ∉ S))))) := hadd
      have cl : cols.length ≤ 1000000 := cl
      generalize (cols.filter fun c => decide (c ∉ S)) = FC at *
      rcases h3 with rfl | rfl <;> simp -implicitDefEqProofs [turn, storeAt_soft, f5, f6, f7, hd, Row.pair, Kin.d, h4, h5, hadd, kl2, cl]
    · have hk : (ks.filter fun c => decide (c ∉ S)) ≠ [] := fun z => o (okr_iff.mpr ⟨ks, rfl, filter_nil.mp z⟩)
      have of : fire S ⟨nm, cols, .key ks⟩ = S := if_neg o
      rw [of]
      have h4 := h2 s3 ks (.tup (ss ks)) h3
      refine ⟨s3, h3, ?_⟩
      generalize (ks.filter fun c => decide (c ∉ S)) = FK at *
      rcases h3 with rfl | rfl <;> simp -implicitDefEqProofs [turn, storeAt_soft, f5, f6, f7, hd, Row.pair, Kin.d, h4, kl2, hk]
/-- some rounds -/
def rounds (T : List Row) : Nat → List Str → List Str
  | 0, S => S
  | n + 1, S => rnd T (rounds T n S)
/-- the closure, as the law makes it -/
def cloR (T : List Row) (cols : List Str) : List Str := rounds T (T.length + 1) cols
theorem rounds_sub (T : List Row) (cols : List Str) : ∀ n, ∀ c ∈ cols, c ∈ rounds T n cols
  | 0, _, hc => hc
  | n + 1, c, hc => rnd_sub T _ c (rounds_sub T cols n c hc)
theorem rounds_least {T : List Row} {cols Z : List Str} (hZ : Closed T Z) (h : ∀ c ∈ cols, c ∈ Z) : ∀ n, ∀ c ∈ rounds T n cols, c ∈ Z
  | 0, c, hc => h c hc
  | n + 1, c, hc => rnd_least hZ T _ (fun _ z => z) (rounds_least hZ h n) c hc
theorem rounds_closed (T : List Row) (cols : List Str) : ∀ n, Closed T (rounds T n cols) ∨ n ≤ (cnt T (rounds T n cols)).length
  | 0 => .inr (Nat.zero_le _)
  | n + 1 => by
    rcases rounds_closed T cols n with h | h
    · exact .inl (rnd_closed h)
    · by_cases hc : Closed T (rounds T n cols)
      · exact .inl (rnd_closed hc)
      · have := rnd_more hc
        refine .inr ?_
        show n + 1 ≤ (cnt T (rnd T (rounds T n cols))).length
        omega
theorem cloR_closed (T : List Row) (cols : List Str) : Closed T (cloR T cols) := by
  rcases rounds_closed T cols (T.length + 1) with h | h
  · exact h
  · have : (cnt T (rounds T (T.length + 1) cols)).length ≤ T.length := List.length_filter_le ..
    omega
theorem cloR_sub (T : List Row) (cols : List Str) : ∀ c ∈ cols, c ∈ cloR T cols := rounds_sub T cols _
theorem cloR_least {T : List Row} {cols Z : List Str} (hZ : Closed T Z) (h : ∀ c ∈ cols, c ∈ Z) : ∀ c ∈ cloR T cols, c ∈ Z := rounds_least hZ h _
theorem clo_mem {T : List Row} {cols K : List Str} (C : Clo T cols K) (c : Str) : c ∈ K ↔ c ∈ cloR T cols :=
  ⟨C.least _ (cloR_closed T cols) (cloR_sub T cols) c, cloR_least C.closed C.from_ c⟩
theorem lc_rnd {rows T : List Row} (L : Lines rows) (hT : ∀ r ∈ T, r ∈ rows) (tl : T.length ≤ 6) {a1 a2 s4 s5 s6 s7 s3 : Slot} {S : List Str} (sl : S.length ≤ 800000) (h3 : s3 = .ow (.lst (ss S)) ∨ s3 = .sh (.lst (ss S))) (f4 : Slot.soft s4) (f5 : Slot.soft s5) (f6 : Slot.soft s6) (f7 : Slot.soft s7) :
    ∃ s3' s5' s6' s7', (s3' = .ow (.lst (ss (rnd T S))) ∨ s3' = .sh (.lst (ss (rnd T S)))) ∧ Slot.soft s5' ∧ Slot.soft s6' ∧ Slot.soft s7' ∧ (rnd T S).length ≤ S.length + 24 ∧ forLoop (gtName 5) lcBody (ss (T.map Row.nm)) [.sh (rowsD rows), a1, a2, s3, s4, s5, s6, s7, .no] = .ok (.next, [.sh (rowsD rows), a1, a2, s3', s4, s5', s6', s7', .no]) := by
  have nn := asc_nodup L.asc
  obtain ⟨ρ', e, s3', s5', s6', s7', g3, gl, g5, g6, g7, rfl⟩ := for_inv (g := gtName 5) (body := lcBody) (em := D.str ∘ Row.nm) (fun dn ρ => ∃ s3 s5 s6 s7, (s3 = .ow (.lst (ss (rnd dn S))) ∨ s3 = .sh (.lst (ss (rnd dn S)))) ∧ (rnd dn S).length ≤ S.length + 4 * dn.length ∧ Slot.soft s5 ∧ Slot.soft s6 ∧ Slot.soft s7 ∧ ρ = [.sh (rowsD rows), a1, a2, s3, s4, s5, s6, s7, .no])
    T [] [.sh (rowsD rows), a1, a2, s3, s4, s5, s6, s7, .no] ⟨s3, s5, s6, s7, h3, by simp [rnd], f5, f6, f7, rfl⟩ (by
      rintro dn r rest ρ hq ⟨s3, s5, s6, s7, h3, hl, f5, f6, f7, rfl⟩
      rw [List.nil_append] at hq
      have hr : r ∈ rows := hT r (by rw [hq]; simp)
      have h2 := congrArg List.length hq
      simp at h2
      have c4 := L.c4 r hr
      obtain ⟨t3, g3, ht⟩ := lc_turn nn hr c4 (fun ks hk => by
        have := L.keylen hr (ks := ks) (by
          unfold Row.keyOf at hk
          split at hk
          · rename_i k q; cases hk; exact q
          · cases hk)
        omega) (S := rnd dn S) (by omega) (a1 := a1) (a2 := a2) h3 f4 f5 f6 f7
      have er : rnd (dn ++ [r]) S = fire (rnd dn S) r := by unfold rnd; rw [List.foldl_append]; rfl
      refine ⟨_, ht, t3, .sh (.str r.nm), .sh (.tup (ss r.cols)), .sh r.kin.d, by rw [er]; exact g3, ?_, soft_sh _, soft_sh _, soft_sh _, rfl⟩
      rw [er, List.length_append, List.length_singleton]
      have := fire_len (rnd dn S) r
      omega)
  refine ⟨s3', s5', s6', s7', g3, g5, g6, g7, by rw [List.nil_append] at gl; omega, ?_⟩
  rw [ss_eq, List.map_map]
  exact e
theorem law_closure {rows T : List Row} (L : Lines rows) (hT : ∀ r ∈ T, r ∈ rows) (tl : T.length ≤ 6) {cols : List Str} (lc : cols.length ≤ 100) :
    ∃ h, fn__law_closure [rowsD rows, .tup (ss cols), .lst (ss (T.map Row.nm))] = .ok (h, []) ∧ (h = .tmp (.lst (ss (cloR T cols))) ∨ h = .val (.lst (ss (cloR T cols)))) := by
  obtain ⟨ρ', e, s3, s4, s5, s6, s7, g3, gl, g4, g5, g6, g7, rfl⟩ := for_inv (g := gtName 4) (body := svFor (ivOf (evVar 2)) (gtName 5) lcBody) (em := fun i : Nat => D.int (0 + (i : Int)))
    (fun dn ρ => ∃ s3 s4 s5 s6 s7, (s3 = .ow (.lst (ss (rounds T dn.length cols))) ∨ s3 = .sh (.lst (ss (rounds T dn.length cols)))) ∧ (rounds T dn.length cols).length ≤ 100 + 24 * dn.length ∧ Slot.soft s4 ∧ Slot.soft s5 ∧ Slot.soft s6 ∧ Slot.soft s7 ∧ ρ = [.sh (rowsD rows), .sh (.tup (ss cols)), .sh (.lst (ss (T.map Row.nm))), s3, s4, s5, s6, s7, .no])
    (List.range (T.length + 1)) [] [.sh (rowsD rows), .sh (.tup (ss cols)), .sh (.lst (ss (T.map Row.nm))), .ow (.lst (ss cols)), .no, .no, .no, .no, .no]
    ⟨_, .no, .no, .no, .no, .inl rfl, by simp only [List.length_nil, rounds]; omega, soft_no, soft_no, soft_no, soft_no, rfl⟩ (by
      rintro dn i rest ρ hq ⟨s3, s4, s5, s6, s7, h3, gl, f4, f5, f6, f7, rfl⟩
      have h2 := congrArg List.length hq
      simp at h2
      have rl : (T.map Row.nm).length ≤ 1000000 := by rw [List.length_map]; omega
      obtain ⟨t3, t5, t6, t7, q3, q5, q6, q7, ql, lp⟩ := lc_rnd L hT tl (a1 := .sh (.tup (ss cols))) (a2 := .sh (.lst (ss (T.map Row.nm)))) (s4 := .sh (.int (i : Int))) (S := rounds T dn.length cols) (by omega) h3 (soft_sh _) f5 f6 f7
      have el : (dn ++ [i]).length = dn.length + 1 := by rw [List.length_append]; rfl
      refine ⟨[.sh (rowsD rows), .sh (.tup (ss cols)), .sh (.lst (ss (T.map Row.nm))), t3, .sh (.int (i : Int)), t5, t6, t7, .no], ?_, t3, _, t5, t6, t7, by rw [el]; exact q3, ?_, soft_sh _, q5, q6, q7, rfl⟩
      · generalize T.map Row.nm = RN at *
        simp -implicitDefEqProofs [turn, storeAt_soft, f4, lp, rl]
      · rw [el]
        show (rnd T (rounds T dn.length cols)).length ≤ _
        omega)
  rw [List.nil_append, List.length_range] at g3 gl
  have g3 : s3 = .ow (.lst (ss (cloR T cols))) ∨ s3 = .sh (.lst (ss (cloR T cols))) := g3
  have e1 : rangeD 0 (T.length + 1) = (List.range (T.length + 1)).map fun i : Nat => D.int (0 + (i : Int)) := rfl
  rw [← e1] at e
  have e2 : ((T.length : Int) + 1).toNat = T.length + 1 := by omega
  have f62 : few62 ((T.length : Int) + 1) = true := by
    unfold few62
    simp only [Bool.and_eq_true, decide_eq_true_eq]
    omega
  have e0 : dLen [.lst (ss (T.map Row.nm))] = some (.val (.int (T.length : Int))) := by simp
  have ed : dList [.tup (ss cols)] = some (.tmp (.lst (ss cols))) := rfl
  generalize T.map Row.nm = RN at *
  rcases g3 with rfl | rfl
  · refine ⟨.tmp (.lst (ss (cloR T cols))), ?_, .inl rfl⟩
    simp -implicitDefEqProofs [fn__law_closure, fnOf_app, b__law_closure, ed, e0, e2, f62, e]
  · refine ⟨.val (.lst (ss (cloR T cols))), ?_, .inr rfl⟩
    simp -implicitDefEqProofs [fn__law_closure, fnOf_app, b__law_closure, ed, e0, e2, f62, e]
end Lw
set_option Elab.async false
set_option linter.all false
set_option maxRecDepth 100000
set_option maxHeartbeats 4000000
/-! parts: names that hang together by common columns; lists of tuples of texts, sorted -/
namespace Lw
open PySem L2 Ft PySem.W PyProof.Rows
def hdS (p : List Str) : Str := p.headD ""
def tsD (ls : List (List Str)) : List D := ls.map fun s => .tup (ss s)
/-! ### sorted lists of tuples -/
def leH (p q : List Str) : Bool := sLe (hdS p) (hdS q)
theorem alike_ss : ∀ xs ys : List Str, alikeAll (xs.map PyData.str) (ys.map PyData.str) = true
  | [], _ => rfl
  | _ :: _, [] => rfl
  | x :: xs, y :: ys => by
    simp only [List.map_cons, alikeAll, alike, alike_ss xs ys, Bool.and_self]
theorem py_tupss (p : List Str) : D.py (.tup (ss p)) = some (.tuple (p.map PyData.str)) := by
  rw [D.py, pys_ss]
  rfl
theorem enc_tupss (p : List Str) : Ft.encD (.tup (ss p)) = .tuple (p.map PyData.str) := by
  unfold Ft.encD
  rw [py_tupss]
  rfl
theorem le_tup {p q : List Str} (hp : p ≠ []) (hq : q ≠ []) (hne : hdS p ≠ hdS q ∨ p = q) : dataLe false Ft.encD (.tup (ss p)) (.tup (ss q)) = leH p q := by
  unfold leH
  rw [sLe_eq]
  show (!(dataLt (Ft.encD (.tup (ss q))) (Ft.encD (.tup (ss p))))) = _
  rw [enc_tupss, enc_tupss, dataLt_tuple]
  cases p with
  | nil => exact absurd rfl hp
  | cons a p =>
    cases q with
    | nil => exact absurd rfl hq
    | cons b q =>
      rw [List.map_cons, List.map_cons, dataLt_cons (by simp only [alike])]
      rcases hne with hne | hne
      · have hne : a ≠ b := hne
        rw [eqv_str, decide_eq_false (fun z => hne z.symm), if_neg Bool.false_ne_true, dataLt_str]
        rfl
      · cases hne
        rw [eqv_str, decide_eq_true rfl, if_pos rfl]
        have h1 : PyProof.Rows.lexLt itemOrd (keyToksAll (p.map PyData.str)) (keyToksAll (p.map PyData.str)) = false := by
          exact lex_irrefl (O := itemOrd) _
        rw [h1]
        show _ = !sLt a a
        rw [sLt_irrefl]
theorem depth_tup (p : List Str) : (PyData.tuple (p.map PyData.str)).depth ≤ 3 := by
  have := (depth_ss p).2
  have h : ∀ xs : List Str, PyData.depthAll (xs.map PyData.str) ≤ 2 := by
    intro xs
    induction xs with
    | nil => simp [PyData.depthAll]
    | cons y ys ih => simp only [List.map_cons, PyData.depthAll, PyData.depth]; omega
  have := h p
  simp only [PyData.depth]
  omega
theorem leH_trans (a b c : List Str) (h1 : leH a b = true) (h2 : leH b c = true) : leH a c = true := sLe_trans _ _ _ h1 h2
theorem leH_total (a b : List Str) : (leH a b || leH b a) = true := sLe_total _ _
def sortT (qs : List (List Str)) : List (List Str) := qs.mergeSort leH
theorem sorted_tups {qs : List (List Str)} (hn : ∀ p ∈ qs, p ≠ []) (hd : (qs.map hdS).Nodup) : dSorted [.lst (tsD qs)] = some (.tmp (.lst (tsD (sortT qs)))) ∧ (sortT qs).Perm qs ∧ Asc ((sortT qs).map hdS) := by
  have pm : (sortT qs).Perm qs := List.mergeSort_perm qs leH
  have pw : (sortT qs).Pairwise (fun x y => leH x y = true) := List.pairwise_mergeSort leH_trans leH_total qs
  refine ⟨?_, pm, pair_asc (List.pairwise_map.mpr pw) ((pm.map hdS).nodup_iff.mpr hd)⟩
  show sortD (tsD qs) = _
  unfold sortD
  have ok : sortOk (tsD qs) = true := by
    unfold sortOk
    simp only [tsD, Bool.and_eq_true, Bool.or_eq_true, List.all_eq_true, List.mem_map, alikeB]
    refine ⟨⟨?_, ?_⟩, .inl ?_⟩
    · rintro d ⟨x, _, rfl⟩
      rw [py_tupss, enc_tupss]
      refine ⟨rfl, ?_⟩
      unfold flatEnough
      have := depth_tup x
      rw [decide_eq_true_eq]
      omega
    · rintro p ⟨d, ⟨x, _, rfl⟩, rfl⟩ q ⟨e, ⟨y, _, rfl⟩, rfl⟩
      rw [enc_tupss, enc_tupss]
      simp only [alike]
      exact alike_ss _ _
    · rintro p ⟨d, ⟨x, hx, rfl⟩, rfl⟩
      rw [enc_tupss]
      cases x with
      | nil => exact absurd rfl (hn _ hx)
      | cons a x => rfl
  rw [if_pos ok]
  have inj : ∀ {xs : List (List Str)}, (xs.map hdS).Nodup → ∀ a ∈ xs, ∀ b ∈ xs, hdS a ≠ hdS b ∨ a = b := by
    intro xs
    induction xs with
    | nil => intro _ a ha; cases ha
    | cons x xs ih =>
      intro n a ha b hb
      rw [List.map_cons, List.nodup_cons] at n
      rcases List.mem_cons.mp ha with e1 | h1
      · rcases List.mem_cons.mp hb with e2 | h2
        · exact .inr (e1.trans e2.symm)
        · exact .inl fun e => n.1 (by rw [← e1, e]; exact List.mem_map.mpr ⟨b, h2, rfl⟩)
      · rcases List.mem_cons.mp hb with e2 | h2
        · exact .inl fun e => n.1 (by rw [← e2, ← e]; exact List.mem_map.mpr ⟨a, h1, rfl⟩)
        · exact ih n.2 a h1 b h2
  have e : (sortT qs).map (fun s => D.tup (ss s)) = (qs.map fun s => D.tup (ss s)).mergeSort (dataLe false Ft.encD) :=
    List.map_mergeSort fun a ha b hb => (le_tup (hn a ha) (hn b hb) (inj hd a ha b hb)).symm
  unfold tsD
  rw [e]
/-! ### parts -/
section
variable (N : List Str) (out : Str → List Str)
def adjP (a b : Str) : Prop := ∃ c, c ∈ out a ∧ c ∈ out b
def shut (Z : Str → Prop) : Prop := ∀ a ∈ N, ∀ b ∈ N, Z a → adjP out a b → Z b
structure Part (p : List Str) : Prop where
  sub : ∀ a ∈ p, a ∈ N
  ne : p ≠ []
  closed : shut N out fun a => a ∈ p
  conn : ∀ Z, shut N out Z → ∀ a ∈ p, Z a → ∀ b ∈ p, Z b
structure Parts (ps : List (List Str)) : Prop where
  part : ∀ p ∈ ps, Part N out p ∧ Asc p
  all : ∀ a ∈ N, ∃ p ∈ ps, a ∈ p
  ord : Asc (ps.map hdS)
end
theorem adj_symm {out : Str → List Str} {a b : Str} (h : adjP out a b) : adjP out b a := let ⟨c, h1, h2⟩ := h; ⟨c, h2, h1⟩
theorem Part.incl {N : List Str} {out : Str → List Str} {p q : List Str} (P : Part N out p) (Q : Part N out q) {x : Str} (hp : x ∈ p) (hq : x ∈ q) : ∀ y ∈ p, y ∈ q := P.conn _ Q.closed x hp hq
theorem Part.same {N : List Str} {out : Str → List Str} {p q : List Str} (P : Part N out p) (Q : Part N out q) (ap : Asc p) (aq : Asc q) {x : Str} (hp : x ∈ p) (hq : x ∈ q) : p = q :=
  asc_same ap aq fun y => ⟨P.incl Q hp hq y, Q.incl P hq hp y⟩
theorem hd_mem {p : List Str} (h : p ≠ []) : hdS p ∈ p := by
  cases p with
  | nil => exact absurd rfl h
  | cons a p => exact List.mem_cons_self ..
theorem Parts.subs {N : List Str} {out : Str → List Str} {ps qs : List (List Str)} (P : Parts N out ps) (Q : Parts N out qs) : ∀ p ∈ ps, p ∈ qs := fun p hp => by
  obtain ⟨h1, h2⟩ := P.part p hp
  obtain ⟨q, hq, hx⟩ := Q.all _ (h1.sub _ (hd_mem h1.ne))
  obtain ⟨h3, h4⟩ := Q.part q hq
  rw [h1.same h3 h2 h4 (hd_mem h1.ne) hx]
  exact hq
theorem eq_of_heads : ∀ {ps qs : List (List Str)}, ps.map hdS = qs.map hdS → (∀ p ∈ ps, ∀ q ∈ qs, hdS p = hdS q → p = q) → ps = qs
  | [], [], _, _ => rfl
  | [], _ :: _, e, _ => by simp at e
  | _ :: _, [], e, _ => by simp at e
  | p :: ps, q :: qs, e, h => by
    rw [List.map_cons, List.map_cons] at e
    injection e with e1 e2
    rw [h p (List.mem_cons_self ..) q (List.mem_cons_self ..) e1, eq_of_heads e2 fun a ha b hb => h a (List.mem_cons_of_mem _ ha) b (List.mem_cons_of_mem _ hb)]
theorem Parts.uniq {N : List Str} {out : Str → List Str} {ps qs : List (List Str)} (P : Parts N out ps) (Q : Parts N out qs) : ps = qs := by
  refine eq_of_heads (asc_same P.ord Q.ord fun x => ?_) fun p hp q hq e => ?_
  · rw [List.mem_map, List.mem_map]
    exact ⟨fun ⟨p, hp, e⟩ => ⟨p, P.subs Q p hp, e⟩, fun ⟨q, hq, e⟩ => ⟨q, Q.subs P q hq, e⟩⟩
  · obtain ⟨h1, h2⟩ := P.part p hp
    obtain ⟨h3, h4⟩ := Q.part q hq
    exact h1.same h3 h2 h4 (hd_mem h1.ne) (by rw [e]; exact hd_mem h3.ne)
end Lw
set_option Elab.async false
set_option linter.all false
set_option maxRecDepth 100000
set_option maxHeartbeats 4000000
/-! closures: what is asked for, and the answers -/
namespace Lw
open PySem L2 Ft
theorem sc_columns (rows : List Row) : fn_Scene_columns [scD rows] = .ok (.val (.tup (ss (everyOf rows))), []) := by
  simp -implicitDefEqProofs [fn_Scene_columns, fnOf_app, b_Scene_columns, scf4]
theorem are_cols {rows : List Row} {xs : List Str} (a : Asc xs) (hn : ∀ x ∈ xs, IsName x) (hs : ∀ x ∈ xs, x ∈ everyOf rows) (hl : xs.length ≤ 1000) : fn_are_columns [scD rows, .tup (ss xs)] = .ok (.val (.bl true), []) := by
  have h0 := is_cols a hn hl
  have h1 : lcLoop (gtName 2) bvYes (evOp2 dIn (evVar 2) (evCall [false] fn_Scene_columns [] (cvRecv [0] (evVar 0) cvNil))) [2] (ss xs) [.sh (scD rows), .sh (.tup (ss xs)), .no] = .ok (xs.map fun _ => D.bl true, [.sh (scD rows), .sh (.tup (ss xs)), .no]) :=
    lc_map (em := D.str) _ xs fun x hx => by
      have := hs x hx
      have h := sc_columns rows
      simp -implicitDefEqProofs [lcStep, this, h]
  have hl2 : xs.length ≤ 1000000 := by omega
  simp -implicitDefEqProofs [fn_are_columns, fnOf_app, b_are_columns, h0, h1, hl2]
/-- what is asked of the arguments of a closure -/
structure Asked (rows T : List Row) (cols : List Str) : Prop where
  M : Made rows
  sub : ∀ r ∈ T, r ∈ rows
  asc : Asc (T.map Row.nm)
  some : T ≠ []
  ca : Asc cols
  ce : ∀ c ∈ cols, c ∈ everyOf rows
theorem Asked.cl {rows T : List Row} {cols : List Str} (A : Asked rows T cols) : cols.length ≤ 6 := by
  have := nodup_len (asc_nodup A.ca) A.ce
  unfold everyOf at this
  rw [sortS_length] at this
  have := A.M.L.few
  omega
theorem Asked.cn {rows T : List Row} {cols : List Str} (A : Asked rows T cols) : ∀ c ∈ cols, IsName c := fun c hc => by
  obtain ⟨r, hr, h⟩ := mem_every.mp (A.ce c hc)
  exact A.M.L.cnm r hr c h
theorem Asked.tl {rows T : List Row} {cols : List Str} (A : Asked rows T cols) : (T.map Row.nm).length ≤ 6 := by
  have := nodup_len (asc_nodup A.asc) (ys := rows.map Row.nm) fun x hx => by
    obtain ⟨r, hr, rfl⟩ := List.mem_map.mp hx
    exact List.mem_map.mpr ⟨r, A.sub r hr, rfl⟩
  have := A.M.L.six
  simp at *
  omega
theorem law_columns {rows : List Row} (nn : (rows.map Row.nm).Nodup) (cn : ∀ r ∈ rows, r.cols.Nodup) (c4 : ∀ r ∈ rows, r.cols.length ≤ 4) (l6 : rows.length ≤ 12) : fn__law_columns [rowsD rows] = .ok (.tmp (.lst (ss (everyOf rows))), []) := by
  obtain ⟨ρ', el, found, s2, f2, hn, hm, hl, rfl⟩ := for_inv (g := gtName 2) (body := (svExpr (evMth .lst 1 mExtend (gvCons (evLc (ivOf (evOp2 dIx (evOp2 dIx (evVar 0) (evVar 2)) (evC (.int 0)))) (gtName 3) (tst (evOp2 dNotIn (evVar 3) (evVar 1))) (evVar 3) [3]) (gvNil))))) (em := D.str ∘ Row.nm)
    (fun dn ρ => ∃ found s2, Slot.soft s2 ∧ found.Nodup ∧ (∀ x, x ∈ found ↔ x ∈ dn.flatMap Row.cols) ∧ found.length ≤ 4 * dn.length ∧ ρ = [.sh (rowsD rows), .ow (.lst (ss found)), s2, .no])
    rows [] [.sh (rowsD rows), .ow (.lst []), .no, .no] ⟨[], .no, soft_no, List.nodup_nil, by simp, by simp, rfl⟩ (by
      rintro dn r rest ρ hq ⟨found, s2, f2, hn, hm, hl, rfl⟩
      rw [List.nil_append] at hq
      have hr : r ∈ rows := by rw [hq]; simp
      have hd := dIx_row nn hr
      have h1 : lcLoop (gtName 3) (tst (evOp2 dNotIn (evVar 3) (evVar 1))) (evVar 3) [3] (ss r.cols) [.sh (rowsD rows), .ow (.lst (ss found)), .sh (.str r.nm), .no] = .ok ((r.cols.filter fun c => decide (c ∉ found)).map D.str, [.sh (rowsD rows), .ow (.lst (ss found)), .sh (.str r.nm), .no]) :=
        lc_filter (em := D.str) (fun c => decide (c ∉ found)) D.str r.cols fun c hc => by
          by_cases h : c ∈ found
          · simp -implicitDefEqProofs [lcStep, h]
          · simp -implicitDefEqProofs [lcStep, h]
      rw [← ss_eq] at h1
      have hdn : dn.length ≤ 12 := by
        have := congrArg List.length hq
        simp at this
        omega
      have c4r := c4 r hr
      have fl := List.length_filter_le (fun c => decide (c ∉ found)) r.cols
      have h2 : mExtend (.lst (ss found)) [.lst (ss (r.cols.filter fun c => decide (c ∉ found)))] = some (.lst (ss (found ++ r.cols.filter fun c => decide (c ∉ found))), .non) := by
        unfold mExtend
        simp only [ss_len, ss_app]
        rw [if_pos (by omega)]
      have cl : r.cols.length ≤ 1000000 := by omega
      refine ⟨[.sh (rowsD rows), .ow (.lst (ss (found ++ r.cols.filter fun c => decide (c ∉ found)))), .sh (.str r.nm), .no], ?_, _, _, soft_sh _, ?_, ?_, ?_, rfl⟩
      · generalize (r.cols.filter fun c => decide (c ∉ found)) = add at *
        simp -implicitDefEqProofs [turn, storeAt_soft, f2, hd, Row.pair, dIx_tup, ixN, h1, h2, cl]
      · rw [List.nodup_append]
        refine ⟨hn, (List.filter_sublist).nodup (cn r hr), fun x hx y hy e => ?_⟩
        have := of_decide_eq_true (List.mem_filter.mp hy).2
        exact this (e ▸ hx)
      · intro x
        rw [List.mem_append, List.mem_filter, List.flatMap_append, List.mem_append, decide_eq_true_eq, hm]
        simp only [List.flatMap_cons, List.flatMap_nil, List.append_nil]
        constructor
        · rintro (h | h)
          · exact .inl h
          · exact .inr h.1
        · rintro (h | h)
          · exact .inl h
          · by_cases z : x ∈ dn.flatMap Row.cols
            · exact .inl z
            · exact .inr ⟨h, z⟩
      · rw [List.length_append, List.length_append, List.length_singleton]
        omega)
  rw [List.nil_append] at hm
  have es : sortS found = everyOf rows := sortS_same hn (dedup_nodup _) fun x => by rw [hm, mem_dedup]
  have e0 : rows.map (D.str ∘ Row.nm) = ss (rows.map Row.nm) := by rw [ss_eq, List.map_map]
  rw [e0] at el
  simp -implicitDefEqProofs [-List.map_map, fn__law_columns, fnOf_app, b__law_columns, el, es]
/-- all sublists, in the order in which the law makes them -/
theorem door {rows : List Row} (L : Lines rows) {d : D} (hd : Dice d) : ∃ cols d', fn__law_door [d, rowsD rows] = .ok (.val (.tup (ss cols)), [d']) ∧ Dice d' ∧ Asc cols ∧ (∀ c ∈ cols, c ∈ everyOf rows) := by
  have h := law_columns (asc_nodup L.asc) L.cn L.c4 (by have := L.six; omega)
  have el : (everyOf rows).length ≤ 6 := by
    unfold everyOf; rw [sortS_length]; exact L.few
  obtain ⟨ys, d', e, hd', hs⟩ := some_s hd (xs := everyOf rows) (by omega) (lo := 0) (hi := 3) (by omega)
  have e : fn__law_some [d, .lst (ss (everyOf rows)), .int 0, .int 3] = _ := e
  refine ⟨sortS ys, d', ?_, hd', sortS_asc (hs.nodup (sortS_nodup (dedup_nodup _))), fun c hc => hs.mem (mem_sortS.mp hc)⟩
  simp -implicitDefEqProofs [fn__law_door, fnOf_app, b__law_door, h, e]
theorem tup_str (xs : List Str) (y : Str) : dEqB (.tup (ss xs)) (.str y) = some false := by
  unfold dEqB
  simp only [D.py, pys_ss, Option.map_some, flatEnough, decide_eq_true (depth_ss xs).2, if_true, PyData.eqv]
/-- a role and its columns -/
inductive RoleOk (rows : List Row) : D → List Str → Prop
  | tab {r : Row} : r ∈ rows → r.chg = true → RoleOk rows (.str r.nm) r.cols
  | door {cols : List Str} : Asc cols → (∀ c ∈ cols, c ∈ everyOf rows) → RoleOk rows (.tup (ss cols)) cols
theorem RoleOk.asked {rows : List Row} (M : Made rows) {role : D} {cols : List Str} (R : RoleOk rows role cols) : Asked rows rows cols := by
  have ne : rows ≠ [] := by
    intro z
    have := M.L.one
    rw [z] at this
    simp at this
  cases R with
  | tab hr hc =>
    rename_i r
    refine ⟨M, fun _ h => h, M.L.asc, ne, ?_, fun c hc => mem_every.mpr ⟨r, hr, hc⟩⟩
    have : r.norm ∈ rows.map Row.norm := List.mem_map.mpr ⟨r, hr, rfl⟩
    rw [M.norm] at this
    have e : r = r.norm := nm_inj (asc_nodup M.L.asc) hr this rfl
    have e2 : r.cols = sortS r.cols := congrArg Row.cols e
    rw [e2]
    exact sortS_asc (M.L.cn r hr)
  | door a h => exact ⟨M, fun _ h => h, M.L.asc, ne, a, h⟩
theorem is_role {rows : List Row} (M : Made rows) {role : D} {cols : List Str} (R : RoleOk rows role cols) : fn_is_role_in [scD rows, role] = .ok (.val (.bl true), []) := by
  have A := R.asked M
  cases R with
  | tab hr hc =>
    rename_i r
    have h : r.nm ∈ (rows.filter Row.chg).map Row.nm := List.mem_map.mpr ⟨r, List.mem_filter.mpr ⟨hr, hc⟩, rfl⟩
    have h3 : decide (r.nm ∈ (rows.filter Row.chg).map Row.nm) = true := decide_eq_true h
    simp -implicitDefEqProofs [-List.mem_map, -List.mem_filter, fn_is_role_in, fnOf_app, b_is_role_in, scf3, h3]
  | door a h =>
    have e := are_cols a (fun c hc => A.cn c hc) h (by have := A.cl; omega)
    simp -implicitDefEqProofs [fn_is_role_in, fnOf_app, b_is_role_in, e]
theorem role_cols {rows : List Row} (M : Made rows) {role : D} {cols : List Str} (R : RoleOk rows role cols) : fn_role_columns [scD rows, role] = .ok (.val (.tup (ss cols)), []) := by
  cases R with
  | tab hr hc =>
    have h := M.ix_cols hr
    simp -implicitDefEqProofs [fn_role_columns, fnOf_app, b_role_columns, scf1, h]
  | door a h => simp -implicitDefEqProofs [fn_role_columns, fnOf_app, b_role_columns]
theorem law_role_cols {rows : List Row} (L : Lines rows) {role : D} {cols : List Str} (R : RoleOk rows role cols) : fn__law_role_columns [rowsD rows, role] = .ok (.val (.tup (ss cols)), []) := by
  cases R with
  | tab hr hc =>
    have h := dIx_row (asc_nodup L.asc) hr
    simp -implicitDefEqProofs [fn__law_role_columns, fnOf_app, b__law_role_columns, h, Row.pair, dIx_tup, ixN]
  | door a h => simp -implicitDefEqProofs [fn__law_role_columns, fnOf_app, b__law_role_columns]
theorem law_changing_ok {rows : List Row} (L : Lines rows) : fn__law_changing [rowsD rows] = .ok (.tmp (.lst (ss ((rows.filter Row.chg).map Row.nm))), []) := by
  have nn := asc_nodup L.asc
  have l6 := L.six
  have e3 : dSorted [rowsD rows] = some (.tmp (.lst (ss (rows.map Row.nm)))) := by
    have h := kvS_sorted (rows.map fun r => (r.nm, r.pair))
    unfold kvS at h
    rw [List.map_map] at h
    refine h.trans ?_
    rw [List.map_map]
    exact congrArg (fun z => some (Hd.tmp (.lst (ss z)))) (sortS_of_asc L.asc)
  have t1 : ∀ ks : List Str, dEqB (.tup (ss ks)) (.str "changing") = some false := fun ks => tup_str ks _
  have t2 : dEqB .non (.str "changing") = some false := by decide +kernel
  have a1 : lcLoop (gtName 1) (tst (evOp2 dEq (evOp2 dIx (evOp2 dIx (evVar 0) (evVar 1)) (evC (.int 1))) (evC (.str "changing")))) (evVar 1) [1] (ss (rows.map Row.nm)) [.sh (rowsD rows), .no] = .ok (ss ((rows.filter Row.chg).map Row.nm), [.sh (rowsD rows), .no]) :=
    lc_rows rows Row.chg fun r hr => by
      have hd := dIx_row nn hr
      obtain ⟨nm, cols, kin⟩ := r
      cases kin with
      | chg =>
        have c : Row.chg ⟨nm, cols, .chg⟩ = true := rfl
        simp -implicitDefEqProofs [lcStep, hd, Row.pair, Kin.d, dIx_tup, ixN, c]
      | fix =>
        have c : Row.chg ⟨nm, cols, .fix⟩ = false := rfl
        simp -implicitDefEqProofs [lcStep, hd, Row.pair, Kin.d, dIx_tup, ixN, c, t2]
      | key ks =>
        have c : Row.chg ⟨nm, cols, .key ks⟩ = false := rfl
        simp -implicitDefEqProofs [lcStep, hd, Row.pair, Kin.d, dIx_tup, ixN, c, t1]
  have rl : (rows.map Row.nm).length ≤ 1000000 := by rw [List.length_map]; omega
  generalize (rows.filter Row.chg).map Row.nm = CR at *
  generalize rows.map Row.nm = RN at *
  simp -implicitDefEqProofs [fn__law_changing, fnOf_app, b__law_changing, e3, a1, rl]
theorem law_role_ok {rows : List Row} (M : Made rows) {d : D} (hd : Dice d) : ∃ role cols d', fn__law_role [d, rowsD rows] = .ok (.val role, [d']) ∧ Dice d' ∧ RoleOk rows role cols := by
  have L := M.L
  have h1 := law_changing_ok L
  by_cases hz : (rows.filter Row.chg).map Row.nm = []
  · obtain ⟨cols, d', e, hd', a, ic⟩ := door L hd
    refine ⟨_, cols, d', ?_, hd', .door a ic⟩
    rw [hz] at h1
    simp -implicitDefEqProofs [fn__law_role, fnOf_app, b__law_role, h1, e]
  · obtain ⟨r, d1, e1, hd1, r0, r3⟩ := roll hd (u := 3) (by omega) (by omega)
    by_cases hr : 0 < r
    · have hpos : 0 < ((rows.filter Row.chg).map Row.nm).length := List.length_pos_iff.mpr hz
      have hl : ((rows.filter Row.chg).map Row.nm).length ≤ 1000 := by
        rw [List.length_map]
        have := List.length_filter_le Row.chg rows
        have := L.six
        omega
      obtain ⟨i, d2, e2, hd2, i0, i1⟩ := roll hd1 (u := (((rows.filter Row.chg).map Row.nm).length : Int)) (by omega) (by omega)
      obtain ⟨n, rfl⟩ : ∃ n : Nat, i = n := ⟨i.toNat, by omega⟩
      have hn : n < ((rows.filter Row.chg).map Row.nm).length := by omega
      have hm : ((rows.filter Row.chg).map Row.nm)[n] ∈ (rows.filter Row.chg).map Row.nm := List.getElem_mem hn
      obtain ⟨q, hq, eq⟩ := List.mem_map.mp hm
      obtain ⟨hq1, hq2⟩ := List.mem_filter.mp hq
      have h2 : dIx (.lst (ss ((rows.filter Row.chg).map Row.nm))) (.int (n : Int)) = some (.val (.str q.nm)) := dIx_at _ _ _ (by
        unfold ss
        rw [List.getElem?_map, List.getElem?_eq_getElem hn, eq]
        rfl)
      refine ⟨.str q.nm, q.cols, d2, ?_, hd2, .tab hq1 hq2⟩
      have h0 : dLen [.lst (ss ((rows.filter Row.chg).map Row.nm))] = some (.val (.int (((rows.filter Row.chg).map Row.nm).length : Int))) := by simp -implicitDefEqProofs [-List.length_map]
      generalize (rows.filter Row.chg).map Row.nm = CR at *
      have h3 : fn__law_pick [d1, .lst (ss CR)] = .ok (.val (.str q.nm), [d2]) := by
        simp -implicitDefEqProofs [fn__law_pick, fnOf_app, b__law_pick, h0, e2, h2]
      simp -implicitDefEqProofs [fn__law_role, fnOf_app, b__law_role, h1, hz, e1, hr, h3]
    · obtain ⟨cols, d', e, hd', a, ic⟩ := door L hd1
      refine ⟨_, cols, d', ?_, hd', .door a ic⟩
      generalize (rows.filter Row.chg).map Row.nm = CR at *
      simp -implicitDefEqProofs [fn__law_role, fnOf_app, b__law_role, h1, hz, e1, hr, e]
end Lw
set_option Elab.async false
set_option linter.all false
set_option maxRecDepth 100000
set_option maxHeartbeats 4000000
/-! joined_to, pieces_in -/
namespace Lw
open PySem L2 Ft
def outD (N : List Str) (out : Str → List Str) : D := kvS (N.map fun n => (n, D.lst (ss (out n))))
theorem outD_keys (N : List Str) (out : Str → List Str) : (N.map fun n => (n, D.lst (ss (out n)))).map (fun x : Str × D => x.1) = N := by
  rw [List.map_map]
  exact (List.map_congr_left fun _ _ => rfl).trans (List.map_id _)
theorem outD_ix {N : List Str} (n : N.Nodup) (out : Str → List Str) {a : Str} (h : a ∈ N) : dIx (outD N out) (.str a) = some (.val (.lst (ss (out a)))) :=
  kvS_ix (by rw [outD_keys]; exact n) (List.mem_map.mpr ⟨a, h, rfl⟩)
def adjB (out : Str → List Str) (a b : Str) : Bool := (out a).any fun c => decide (c ∈ out b)
theorem adjB_iff {out : Str → List Str} {a b : Str} : adjB out a b = true ↔ adjP out a b := by
  unfold adjB adjP
  rw [List.any_eq_true]
  exact ⟨fun ⟨c, h1, h2⟩ => ⟨c, h1, of_decide_eq_true h2⟩, fun ⟨c, h1, h2⟩ => ⟨c, h1, decide_eq_true h2⟩⟩
theorem svAug_int {i : Nat} {g : Int → Int → Int} {f : EV} {a b : Int} {ρ ρ1 ρ2 : Rho} (h : ρ[i]? = some (.sh (.int a))) (hf : given f ρ = .ok (.int b, ρ1)) (hs : ρ1.store i (.val (.int (g a b))) = some ρ2) : svAug i g f ρ = .ok (.next, ρ2) := by
  unfold svAug
  rw [h]
  show (given f ρ).bind _ = _
  rw [hf]
  show (Res.of (ρ1.store i (.val (.int (g a b))))).bind _ = _
  rw [hs]
  rfl
abbrev jIn : SV := svIf (bvAnd (tst (evOp2 dNotIn (evVar 5) (evVar 3))) (tst (evOps dAny (avCons (evLc (ivOf (evOp2 dIx (evVar 2) (evOp2 dIx (evVar 3) (evVar 4)))) (gtName 6) (bvYes) (evOp2 dIn (evVar 6) (evOp2 dIx (evVar 2) (evVar 5))) [6]) (avNil))))) (svExpr (evMth .lst 3 mAppend (gvCons (evVar 5) (gvNil)))) (svNext)
theorem j_turn {N found : List Str} {out : Str → List Str} (nN : N.Nodup) (ol : ∀ a ∈ N, (out a).length ≤ 1000) {x0 x1 : D} {at_ : Nat} (ha : at_ < found.length) (fl : found.length < 1000) (hfa : found[at_] ∈ N) {b : Str} (hb : b ∈ N) {s5 : Slot} (f5 : Slot.soft s5) :
    turn (gtName 5) jIn (.str b) [.sh x0, .sh x1, .sh (outD N out), .ow (.lst (ss found)), .sh (.int (at_ : Int)), s5, .no] = .ok (.next, [.sh x0, .sh x1, .sh (outD N out), .ow (.lst (ss (found ++ if (decide (b ∉ found) && adjB out found[at_] b) = true then [b] else []))), .sh (.int (at_ : Int)), .sh (.str b), .no]) := by
  have h1 : dIx (.lst (ss found)) (.int (at_ : Int)) = some (.val (.str found[at_])) := dIx_at _ _ _ (by
    unfold ss
    rw [List.getElem?_map, List.getElem?_eq_getElem ha]
    rfl)
  have h2 := outD_ix nN out hfa
  have h3 := outD_ix nN out hb
  have h4 : lcLoop (gtName 6) bvYes (evOp2 dIn (evVar 6) (evOp2 dIx (evVar 2) (evVar 5))) [6] (ss (out found[at_])) [.sh x0, .sh x1, .sh (outD N out), .ow (.lst (ss found)), .sh (.int (at_ : Int)), .sh (.str b), .no] = .ok ((out found[at_]).map fun c => D.bl (decide (c ∈ out b)), [.sh x0, .sh x1, .sh (outD N out), .ow (.lst (ss found)), .sh (.int (at_ : Int)), .sh (.str b), .no]) :=
    lc_map (em := D.str) _ _ fun x hx => by simp -implicitDefEqProofs [lcStep, h3]
  have h5 := dAny_map (fun c => decide (c ∈ out b)) (out found[at_])
  have h5 : dAny [.lst ((out found[at_]).map fun c => D.bl (decide (c ∈ out b)))] = some (.val (.bl (adjB out found[at_] b))) := h5
  have h6 : mAppend (.lst (ss found)) [.str b] = some (.lst (ss (found ++ [b])), .non) := by
    unfold mAppend
    simp only [ss_len]
    rw [if_pos (by omega), ← ss_app]
    rfl
  have ol2 : (out found[at_]).length ≤ 1000000 := by have := ol _ hfa; omega
  generalize adjB out found[at_] b = AB at *
  generalize outD N out = OD at *
  by_cases hm : b ∈ found
  · simp -implicitDefEqProofs [turn, storeAt_soft, f5, hm]
  · cases AB <;> simp -implicitDefEqProofs [turn, storeAt_soft, f5, hm, h1, h2, h4, h5, h6, ol2]
abbrev jBody : SV := (svSeq (svFor (ivOf (evVar 1)) (gtName 5) jIn) (svAug 4 (fun i j => i + j) (evC (.int 1))))
theorem joined {N left : List Str} {out : Str → List Str} (nN : N.Nodup) (ol : ∀ a ∈ N, (out a).length ≤ 1000) (hl : ∀ a ∈ left, a ∈ N) (nl : left.Nodup) (ll : left.length ≤ 100) {t : Str} (ht : t ∈ left) :
    ∃ p, fn_joined_to [.str t, .lst (ss left), outD N out] = .ok (.val (.tup (ss p)), []) ∧ Asc p ∧ Part left out p ∧ t ∈ p := by
  have W := while_inv (c := tst (evOp2 dLt (evVar 4) (evOps dLen (avCons (evVar 3) (avNil))))) (body := jBody)
    (fun m ρ => ∃ (found : List Str) (at_ : Nat) (s5 : Slot), found.Nodup ∧ (∀ a ∈ found, a ∈ left) ∧ t ∈ found ∧ at_ ≤ found.length ∧ (∀ j, j < at_ → ∀ (h : j < found.length), ∀ b ∈ left, adjP out found[j] b → b ∈ found) ∧ (∀ Z, shut left out Z → Z t → ∀ a ∈ found, Z a) ∧ left.length ≤ m + at_ ∧ Slot.soft s5 ∧ ρ = [.sh (.str t), .sh (.lst (ss left)), .sh (outD N out), .ow (.lst (ss found)), .sh (.int (at_ : Int)), s5, .no])
    (fun o ρ => ∃ (found : List Str) (s4 s5 : Slot), o = .next ∧ found.Nodup ∧ (∀ a ∈ found, a ∈ left) ∧ t ∈ found ∧ shut left out (fun a => a ∈ found) ∧ (∀ Z, shut left out Z → Z t → ∀ a ∈ found, Z a) ∧ ρ = [.sh (.str t), .sh (.lst (ss left)), .sh (outD N out), .ow (.lst (ss found)), s4, s5, .no])
    (by
      rintro m ρ ⟨found, at_, s5, fn, fs, tf, al, cl, cn, hm, f5, rfl⟩
      have fl : found.length ≤ left.length := nodup_len fn fs
      by_cases hc : at_ < found.length
      · refine .inr ⟨[.sh (.str t), .sh (.lst (ss left)), .sh (outD N out), .ow (.lst (ss found)), .sh (.int (at_ : Int)), s5, .no], ?_, .inl ⟨m - 1, ?_⟩⟩
        · have c1 : ((at_ : Int) < (found.length : Int)) = (at_ < found.length) := propext (by omega)
          simp -implicitDefEqProofs [c1, hc]
        · have hfa : found[at_] ∈ N := hl _ (fs _ (List.getElem_mem hc))
          obtain ⟨ρ', e, add, s5', an, ad, ac, g5, rfl⟩ := for_inv (g := gtName 5) (body := jIn) (em := D.str) (fun dn ρ => ∃ (add : List Str) (s5 : Slot), (found ++ add).Nodup ∧ (∀ a ∈ add, a ∈ left ∧ adjP out found[at_] a) ∧ (∀ b ∈ dn, adjP out found[at_] b → b ∈ found ++ add) ∧ Slot.soft s5 ∧ ρ = [.sh (.str t), .sh (.lst (ss left)), .sh (outD N out), .ow (.lst (ss (found ++ add))), .sh (.int (at_ : Int)), s5, .no])
            left [] [.sh (.str t), .sh (.lst (ss left)), .sh (outD N out), .ow (.lst (ss found)), .sh (.int (at_ : Int)), s5, .no] ⟨[], s5, by simpa using fn, (fun a h => nomatch h), (fun b h => nomatch h), f5, by simp⟩ (by
              rintro dn b rest ρ hq ⟨add, s5, an, ad, ac, f5, rfl⟩
              rw [List.nil_append] at hq
              have hb : b ∈ left := by rw [hq]; simp
              have hlen : (found ++ add).length ≤ left.length := nodup_len an fun a ha => by
                rcases List.mem_append.mp ha with z | z
                · exact fs a z
                · exact (ad a z).1
              have e0 : (found ++ add)[at_]'(by rw [List.length_append]; omega) = found[at_] := List.getElem_append_left hc
              have hj := j_turn nN ol (x0 := .str t) (x1 := .lst (ss left)) (at_ := at_) (found := found ++ add) (by rw [List.length_append]; omega) (by omega) (by rw [e0]; exact hfa) (b := b) (hl b hb) f5
              rw [e0] at hj
              by_cases hnew : (decide (b ∉ found ++ add) && adjB out found[at_] b) = true
              · rw [if_pos hnew] at hj
                rw [Bool.and_eq_true, decide_eq_true_eq, adjB_iff] at hnew
                rw [List.append_assoc] at hj
                refine ⟨_, hj, add ++ [b], _, ?_, fun a ha => ?_, fun y hy hadj => ?_, soft_sh _, rfl⟩
                · rw [← List.append_assoc, List.nodup_append]
                  exact ⟨an, by simp, fun x hx y hy e => hnew.1 (by simp at hy; rw [← hy, ← e]; exact hx)⟩
                · rcases List.mem_append.mp ha with z | z
                  · exact ad a z
                  · rw [List.mem_singleton.mp z]; exact ⟨hb, hnew.2⟩
                · rw [← List.append_assoc]
                  rcases List.mem_append.mp hy with z | z
                  · exact List.mem_append.mpr (.inl (ac y z hadj))
                  · exact List.mem_append.mpr (.inr z)
              · rw [if_neg hnew, List.append_nil] at hj
                refine ⟨_, hj, add, _, an, ad, fun y hy hadj => ?_, soft_sh _, rfl⟩
                rcases List.mem_append.mp hy with z | z
                · exact ac y z hadj
                · rw [List.mem_singleton.mp z] at hadj ⊢
                  refine Classical.byContradiction fun q => hnew ?_
                  rw [Bool.and_eq_true, decide_eq_true_eq, adjB_iff]
                  exact ⟨q, hadj⟩)
          rw [List.nil_append] at ac
          refine ⟨[.sh (.str t), .sh (.lst (ss left)), .sh (outD N out), .ow (.lst (ss (found ++ add))), .sh (.int ((at_ + 1 : Nat) : Int)), s5', .no], ?_, by omega, found ++ add, at_ + 1, s5', an, ?_, List.mem_append.mpr (.inl tf), by rw [List.length_append]; omega, fun j hj h b hb hadj => ?_, fun Z hZ zt a ha => ?_, by omega, g5, rfl⟩
          · have aug : svAug 4 (fun i j => i + j) (evC (.int 1)) [.sh (.str t), .sh (.lst (ss left)), .sh (outD N out), .ow (.lst (ss (found ++ add))), .sh (.int (at_ : Int)), s5', .no] = .ok (.next, [.sh (.str t), .sh (.lst (ss left)), .sh (outD N out), .ow (.lst (ss (found ++ add))), .sh (.int ((at_ + 1 : Nat) : Int)), s5', .no]) := svAug_int (a := (at_ : Int)) (b := 1) rfl rfl rfl
            have ll2 : left.length ≤ 1000000 := by omega
            have e : forLoop (gtName 5) jIn (ss left) _ = _ := e
            generalize outD N out = OD at *
            simp -implicitDefEqProofs [jBody, e, aug, ll2]
          · intro a ha
            rcases List.mem_append.mp ha with z | z
            · exact fs a z
            · exact (ad a z).1
          · by_cases hj2 : j < at_
            · have hjl : j < found.length := by omega
              rw [List.getElem_append_left hjl] at hadj
              exact List.mem_append.mpr (.inl (cl j hj2 hjl b hb hadj))
            · obtain rfl : j = at_ := by omega
              rw [List.getElem_append_left hc] at hadj
              exact ac b hb hadj
          · rcases List.mem_append.mp ha with z | z
            · exact cn Z hZ zt a z
            · obtain ⟨h1, h2⟩ := ad a z
              exact hZ _ (fs _ (List.getElem_mem hc)) a h1 (cn Z hZ zt _ (List.getElem_mem hc)) h2
      · refine .inl ⟨.next, [.sh (.str t), .sh (.lst (ss left)), .sh (outD N out), .ow (.lst (ss found)), .sh (.int (at_ : Int)), s5, .no], ?_, rfl, found, _, s5, rfl, fn, fs, tf, ?_, cn, rfl⟩
        · have c1 : ((at_ : Int) < (found.length : Int)) = (at_ < found.length) := propext (by omega)
          simp -implicitDefEqProofs [c1, hc]
        · intro a ha b hb hm hadj
          obtain ⟨j, hj, e⟩ := List.mem_iff_getElem.mp hm
          exact cl j (by omega) hj b hb (by rw [e]; exact hadj))
    left.length 1000000 [.sh (.str t), .sh (.lst (ss left)), .sh (outD N out), .ow (.lst (ss [t])), .sh (.int 0), .no, .no] ⟨[t], 0, .no, by simp, by simpa using ht, by simp, by simp, (fun j h => absurd h (Nat.not_lt_zero j)), (fun Z _ zt a ha => by rw [List.mem_singleton.mp ha]; exact zt), by omega, soft_no, rfl⟩ (by omega)
  obtain ⟨o, ρ', e, found, s4, s5, rfl, fn, fs, tf, sh, cn, rfl⟩ := W
  have e : whileLoop (tst (evOp2 dLt (evVar 4) (evOps dLen (avCons (evVar 3) (avNil))))) jBody 1000000 [.sh (.str t), .sh (.lst (ss left)), .sh (outD N out), .ow (.lst [.str t]), .sh (.int 0), .no, .no] = _ := e
  refine ⟨sortS found, ?_, sortS_asc fn, ⟨fun a ha => fs a (mem_sortS.mp ha), fun z => ?_, fun a ha b hb h1 h2 => mem_sortS.mpr (sh a ha b hb (mem_sortS.mp h1) h2), fun Z hZ a ha za b hb => ?_⟩, mem_sortS.mpr tf⟩
  · generalize outD N out = OD at *
    simp -implicitDefEqProofs [fn_joined_to, fnOf_app, b_joined_to, e]
  · have := mem_sortS.mpr tf
    rw [z] at this; cases this
  · -- from a back to t, from t to b
    have hb' := mem_sortS.mp hb
    have ha' := mem_sortS.mp ha
    have zt : Z t := by
      refine Classical.byContradiction fun nz => ?_
      have := cn (fun x => ¬ Z x) (fun x hx y hy h1 h2 zy => h1 (hZ y hy x hx zy (adj_symm h2))) nz a ha'
      exact this za
    exact cn Z hZ zt b hb'
end Lw
set_option Elab.async false
set_option linter.all false
set_option maxRecDepth 100000
set_option maxHeartbeats 4000000
/-! pieces_in, pieces -/
namespace Lw
open PySem L2 Ft
def roleIs : D → Str → Bool
  | .str y, x => decide (x = y)
  | _, _ => false
theorem str_tup (x : Str) (xs : List Str) : dEqB (.str x) (.tup (ss xs)) = some false := by
  unfold dEqB
  simp only [D.py, pys_ss, Option.map_some, flatEnough, PyData.depth, PyData.eqv]
  rfl
theorem eq_role {rows : List Row} {role : D} {cols : List Str} (R : RoleOk rows role cols) (x : Str) : dEqB (.str x) role = some (roleIs role x) := by
  cases R with
  | tab hr hc => exact dEqB_str _ _
  | door a h => exact str_tup _ _
def restOf (T : List Row) (role : D) : List Row := T.filter fun r => !roleIs role r.nm
def namesOf (T : List Row) (role : D) : List Str := (restOf T role).map Row.nm
def outOf (T : List Row) (S : List Str) (n : Str) : List Str := (((T.find? fun r => decide (r.nm = n)).map Row.cols).getD []).filter fun c => decide (c ∉ S)
theorem find_row : ∀ {T : List Row}, (T.map Row.nm).Nodup → ∀ {r : Row}, r ∈ T → T.find? (fun q => decide (q.nm = r.nm)) = some r
  | [], _, _, h => nomatch h
  | q :: T, n, r, h => by
    rw [List.map_cons, List.nodup_cons] at n
    rw [List.find?_cons]
    rcases List.mem_cons.mp h with e | h
    · rw [e, decide_eq_true rfl]
    · have : q.nm ≠ r.nm := fun e => n.1 (by rw [e]; exact List.mem_map.mpr ⟨r, h, rfl⟩)
      rw [decide_eq_false this]
      exact find_row n.2 h
theorem outOf_row {T : List Row} (n : (T.map Row.nm).Nodup) {r : Row} (h : r ∈ T) (S : List Str) : outOf T S r.nm = r.cols.filter fun c => decide (c ∉ S) := by
  unfold outOf
  rw [find_row n h]
  rfl
theorem asc_head : ∀ {p : List Str}, Asc p → ∀ x ∈ p, x = hdS p ∨ sLt (hdS p) x = true
  | [], _, _, h => nomatch h
  | a :: p, h, x, hx => by
    unfold Asc at h
    rw [List.pairwise_cons] at h
    rcases List.mem_cons.mp hx with e | hx
    · exact .inl e
    · exact .inr (h.1 x hx)
theorem head_is {p left : List Str} {t : Str} {l : List Str} (e : left = t :: l) (al : Asc left) (ap : Asc p) (ht : t ∈ p) (hs : ∀ a ∈ p, a ∈ left) : hdS p = t := by
  have hne : p ≠ [] := fun z => by rw [z] at ht; cases ht
  rcases asc_head ap t ht with h | h
  · exact h.symm
  · have hm := hs _ (hd_mem hne)
    rw [e] at hm al
    rcases List.mem_cons.mp hm with q | q
    · exact q
    · unfold Asc at al
      rw [List.pairwise_cons] at al
      have := sLt_trans (al.1 _ q) h
      rw [sLt_irrefl] at this; cases this
abbrev pBody : SV := (svSeq (svSet 7 (evCall [false,false,false] fn_joined_to [] (cvFr (evOp2 dIx (evVar 4) (evC (.int 0))) (cvFr (evVar 4) (cvFr (evVar 6) (cvNil)))))) (svSeq (svExpr (evMth .lst 5 mAppend (gvCons (evVar 7) (gvNil)))) (svSet 4 (evLc (ivOf (evVar 4)) (gtName 8) (tst (evOp2 dNotIn (evVar 8) (evVar 7))) (evVar 8) [8]))))
theorem p_loop {N : List Str} {out : Str → List Str} (aN : Asc N) (ol : ∀ a ∈ N, (out a).length ≤ 1000) (lN : N.length ≤ 100) {x0 x1 x2 x3 : D} :
    ∃ (ps : List (List Str)) (s4 s6 s7 : Slot), Parts N out ps ∧ ps.length ≤ N.length ∧ whileLoop (tst (evOp2 dNe (evVar 4) (evLst (gvNil)))) pBody 1000000 [.sh x0, .sh x1, .sh x2, .sh x3, .sh (.lst (ss N)), .ow (.lst []), .ow (outD N out), .no, .no, .no] = .ok (.next, [.sh x0, .sh x1, .sh x2, .sh x3, s4, .ow (.lst (tsD ps)), s6, s7, .no, .no]) := by
  have nN := asc_nodup aN
  have W := while_inv (c := tst (evOp2 dNe (evVar 4) (evLst (gvNil)))) (body := pBody)
    (fun m ρ => ∃ (left : List Str) (ps : List (List Str)) (s4 s6 s7 : Slot), List.Sublist left N ∧ (s4 = .ow (.lst (ss left)) ∨ s4 = .sh (.lst (ss left))) ∧ (s6 = .ow (outD N out) ∨ s6 = .sh (outD N out)) ∧ Slot.soft s7 ∧ left.length ≤ m ∧
      (∀ a ∈ left, ∀ b ∈ N, adjP out a b → b ∈ left) ∧ (∀ p ∈ ps, Part N out p ∧ Asc p) ∧ Asc (ps.map hdS) ∧ (∀ p ∈ ps, ∀ a ∈ left, sLt (hdS p) a = true) ∧ (∀ a ∈ N, a ∈ left ∨ ∃ p ∈ ps, a ∈ p) ∧ ps.length + left.length ≤ N.length ∧
      ρ = [.sh x0, .sh x1, .sh x2, .sh x3, s4, .ow (.lst (tsD ps)), s6, s7, .no, .no])
    (fun o ρ => ∃ (ps : List (List Str)) (s4 s6 s7 : Slot), o = .next ∧ Parts N out ps ∧ ps.length ≤ N.length ∧ ρ = [.sh x0, .sh x1, .sh x2, .sh x3, s4, .ow (.lst (tsD ps)), s6, s7, .no, .no])
    (by
      rintro m ρ ⟨left, ps, s4, s6, s7, sub, h4, h6, f7, hm, cm, pp, ao, lt, all, ln, rfl⟩
      cases left with
      | nil =>
        refine .inl ⟨.next, [.sh x0, .sh x1, .sh x2, .sh x3, s4, .ow (.lst (tsD ps)), s6, s7, .no, .no], ?_, rfl, ps, s4, s6, s7, rfl, ⟨pp, fun a ha => (all a ha).resolve_left (fun z => nomatch z), ao⟩, by simpa using ln, rfl⟩
        generalize outD N out = OD at *
        rcases h4 with rfl | rfl <;> simp -implicitDefEqProofs
      | cons t l =>
        obtain ⟨left, hL⟩ : ∃ left, left = t :: l := ⟨_, rfl⟩
        rw [← hL] at sub h4 hm cm lt all ln
        have al : Asc left := asc_sub sub aN
        have nl := asc_nodup al
        have ht : t ∈ left := by rw [hL]; exact List.mem_cons_self ..
        have hsl : ∀ a ∈ left, a ∈ N := fun a ha => sub.subset ha
        have ll : left.length ≤ N.length := sub.length_le
        obtain ⟨p, e1, ap, P, tp⟩ := joined nN ol hsl nl (by omega) ht
        have hp := head_is hL al ap tp P.sub
        have PN : Part N out p := ⟨fun a ha => hsl a (P.sub a ha), P.ne, fun a ha b hb h1 h2 => P.closed a (P.sub a h1) b (cm a (P.sub a h1) b hb h2) h1 h2, fun Z hZ => P.conn Z fun a ha b hb => hZ a (hsl a ha) b (hsl b hb)⟩
        have hne : left ≠ [] := by rw [hL]; simp
        have h0 : dIx (.lst (ss left)) (.int 0) = some (.val (.str t)) := by rw [hL]; exact dIx_at _ 0 _ rfl
        have ap1 : mAppend (.lst (tsD ps)) [.tup (ss p)] = some (.lst (tsD (ps ++ [p])), .non) := by
          unfold mAppend tsD
          simp only [List.length_map]
          rw [if_pos (by omega), List.map_append]
          rfl
        have lc2 : ∀ s6 : Slot, lcLoop (gtName 8) (tst (evOp2 dNotIn (evVar 8) (evVar 7))) (evVar 8) [8] (ss left) [.sh x0, .sh x1, .sh x2, .sh x3, .sh (.lst (ss left)), .ow (.lst (tsD (ps ++ [p]))), s6, .sh (.tup (ss p)), .no, .no] = .ok (ss (left.filter fun c => decide (c ∉ p)), [.sh x0, .sh x1, .sh x2, .sh x3, .sh (.lst (ss left)), .ow (.lst (tsD (ps ++ [p]))), s6, .sh (.tup (ss p)), .no, .no]) := fun s6 =>
          lc_filter (em := D.str) (fun c => decide (c ∉ p)) D.str left fun x _ => by
            by_cases h : x ∈ p <;> simp -implicitDefEqProofs [lcStep, h]
        have fl : (left.filter fun c => decide (c ∉ p)).length < left.length := List.length_filter_lt_length_iff_exists.mpr ⟨t, ht, by simpa using tp⟩
        have ll2 : left.length ≤ 1000000 := by omega
        refine .inr ⟨[.sh x0, .sh x1, .sh x2, .sh x3, s4, .ow (.lst (tsD ps)), s6, s7, .no, .no], ?_, .inl ⟨m - 1, [.sh x0, .sh x1, .sh x2, .sh x3, .ow (.lst (ss (left.filter fun c => decide (c ∉ p)))), .ow (.lst (tsD (ps ++ [p]))), .sh (outD N out), .sh (.tup (ss p)), .no, .no], ?_, by omega, left.filter (fun c => decide (c ∉ p)), ps ++ [p], _, _, _, List.filter_sublist.trans sub, .inl rfl, .inr rfl, soft_sh _, by omega, fun a ha b hb hadj => ?_, fun q hq => ?_, ?_, fun q hq a ha => ?_, fun a ha => ?_, ?_, rfl⟩⟩
        · generalize outD N out = OD at *
          rcases h4 with rfl | rfl <;> simp -implicitDefEqProofs [hne]
        · generalize outD N out = OD at *
          generalize (left.filter fun c => decide (c ∉ p)) = FL at *
          generalize tsD (ps ++ [p]) = T2 at *
          generalize tsD ps = T1 at *
          rcases h4 with rfl | rfl <;> rcases h6 with rfl | rfl <;> simp -implicitDefEqProofs [pBody, storeAt_soft, f7, h0, e1, ap1, lc2, ll2, soft_sh, soft_ow]
        · obtain ⟨h1, h2⟩ := List.mem_filter.mp ha
          have h2 := of_decide_eq_true h2
          have hbl := cm a h1 b hb hadj
          exact List.mem_filter.mpr ⟨hbl, decide_eq_true fun z => h2 (P.closed b hbl a h1 z (adj_symm hadj))⟩
        · rcases List.mem_append.mp hq with z | z
          · exact pp q z
          · rw [List.mem_singleton.mp z]; exact ⟨PN, ap⟩
        · rw [List.map_append]
          unfold Asc
          rw [List.pairwise_append]
          refine ⟨ao, by simp, fun x hx y hy => ?_⟩
          obtain ⟨q, hq, rfl⟩ := List.mem_map.mp hx
          rw [List.map_singleton, List.mem_singleton, hp] at hy
          rw [hy]
          exact lt q hq t ht
        · obtain ⟨h1, h2⟩ := List.mem_filter.mp ha
          rcases List.mem_append.mp hq with z | z
          · exact lt q z a h1
          · rw [List.mem_singleton.mp z, hp]
            have hat : a ≠ t := fun e => of_decide_eq_true h2 (e ▸ tp)
            rw [hL] at h1 al
            unfold Asc at al
            rw [List.pairwise_cons] at al
            rcases List.mem_cons.mp h1 with q | q
            · exact absurd q hat
            · exact al.1 a q
        · rcases all a ha with z | ⟨q, hq, z⟩
          · by_cases k : a ∈ p
            · exact .inr ⟨p, by simp, k⟩
            · exact .inl (List.mem_filter.mpr ⟨z, decide_eq_true k⟩)
          · exact .inr ⟨q, List.mem_append.mpr (.inl hq), z⟩
        · rw [List.length_append, List.length_singleton]
          omega)
    N.length 1000000 [.sh x0, .sh x1, .sh x2, .sh x3, .sh (.lst (ss N)), .ow (.lst []), .ow (outD N out), .no, .no, .no] ⟨N, [], _, _, .no, List.Sublist.refl _, .inr rfl, .inl rfl, soft_no, Nat.le_refl _, (fun a ha b hb _ => hb), (fun p h => nomatch h), .nil, (fun p h => nomatch h), (fun a ha => .inl ha), by simp, rfl⟩ (by omega)
  obtain ⟨o, ρ', e, ps, s4, s6, s7, rfl, P, pl, rfl⟩ := W
  exact ⟨ps, s4, s6, s7, P, pl, e⟩
theorem pieces_in_ok {rows T : List Row} {role : D} {cols : List Str} (M : Made rows) (hT : ∀ r ∈ T, r ∈ rows) (aT : Asc (T.map Row.nm)) (R : RoleOk rows role cols) :
    ∃ ps, fn_pieces_in [scD rows, role, .tup (ss (T.map Row.nm))] = .ok (.val (.tup (tsD ps)), []) ∧ Parts (namesOf T role) (outOf T (cloR T cols)) ps ∧ ps.length ≤ 6 := by
  have A := R.asked M
  have L := M.L
  have nT := asc_nodup aT
  have tl : T.length ≤ 6 := by
    have := nodup_len nT (ys := rows.map Row.nm) fun x hx => by
      obtain ⟨r, hr, rfl⟩ := List.mem_map.mp hx
      exact List.mem_map.mpr ⟨r, hT r hr, rfl⟩
    have := L.six
    simp at *
    omega
  have h1 := role_cols M R
  obtain ⟨K, C, h2⟩ := closure_in_ok M hT aT (asc_nodup A.ca) (by have := A.cl; omega)
  have h3 : lcLoop (gtName 8) (tst (evOp2 dNe (evVar 8) (evVar 1))) (evVar 8) [8] (ss (T.map Row.nm)) [.sh (scD rows), .sh role, .sh (.tup (ss (T.map Row.nm))), .sh (.tup (ss K)), .no, .no, .no, .no, .no, .no] = .ok (ss (namesOf T role), [.sh (scD rows), .sh role, .sh (.tup (ss (T.map Row.nm))), .sh (.tup (ss K)), .no, .no, .no, .no, .no, .no]) :=
    lc_rows T (fun r => !roleIs role r.nm) fun r hr => by
      have e := eq_role R r.nm
      cases hb : roleIs role r.nm <;> rw [hb] at e <;> simp -implicitDefEqProofs [lcStep, e]
  have aN : Asc (namesOf T role) := asc_sub (List.filter_sublist.map Row.nm) aT
  have hrest : ∀ r ∈ restOf T role, r ∈ T := fun r hr => (List.mem_filter.mp hr).1
  have h4 : dcLoop (gtName 8) bvYes (evVar 8) (evLc (ivOf (evOp2 dIx (evFld [0] 1 (evVar 0)) (evVar 8))) (gtName 9) (tst (evOp2 dNotIn (evVar 9) (evVar 3))) (evVar 9) [9]) [8] (ss (namesOf T role)) [] [.sh (scD rows), .sh role, .sh (.tup (ss (T.map Row.nm))), .sh (.tup (ss K)), .sh (.lst (ss (namesOf T role))), .ow (.lst []), .no, .no, .no, .no] = .ok ((restOf T role).map fun r => ((.inr r.nm : Key), D.lst (ss (outOf T (cloR T cols) r.nm))), [.sh (scD rows), .sh role, .sh (.tup (ss (T.map Row.nm))), .sh (.tup (ss K)), .sh (.lst (ss (namesOf T role))), .ow (.lst []), .no, .no, .no, .no]) := by
    have e0 : ss (namesOf T role) = (restOf T role).map (D.str ∘ Row.nm) := by
      unfold namesOf
      rw [ss_eq, List.map_map]
    rw [e0]
    refine dc_new (em := D.str ∘ Row.nm) (fun r : Row => ((.inr r.nm : Key), D.lst (ss (outOf T (cloR T cols) r.nm)))) (restOf T role) (by
      have := inrs_nodup (asc_nodup aN)
      unfold namesOf at this
      rw [List.map_map] at this
      exact this) fun r hr => ?_
    have hrT := hrest r hr
    have hrr := hT r hrT
    have hx := M.ix_cols hrr
    have c4 := L.c4 r hrr
    have cl : r.cols.length ≤ 1000000 := by omega
    have eo : outOf T (cloR T cols) r.nm = r.cols.filter fun c => decide (c ∉ K) := by
      rw [outOf_row nT hrT]
      refine List.filter_congr fun c _ => ?_
      rw [decide_eq_decide, clo_mem C c]
    rw [eo, ← e0]
    have hl : lcLoop (gtName 9) (tst (evOp2 dNotIn (evVar 9) (evVar 3))) (evVar 9) [9] (ss r.cols) [.sh (scD rows), .sh role, .sh (.tup (ss (T.map Row.nm))), .sh (.tup (ss K)), .sh (.lst (ss (namesOf T role))), .ow (.lst []), .no, .no, .sh (.str r.nm), .no] = .ok (ss (r.cols.filter fun c => decide (c ∉ K)), [.sh (scD rows), .sh role, .sh (.tup (ss (T.map Row.nm))), .sh (.tup (ss K)), .sh (.lst (ss (namesOf T role))), .ow (.lst []), .no, .no, .sh (.str r.nm), .no]) :=
      lc_filter (em := D.str) (fun c => decide (c ∉ K)) D.str r.cols fun x _ => by
        by_cases h : x ∈ K <;> simp -implicitDefEqProofs [lcStep, h]
    generalize (r.cols.filter fun c => decide (c ∉ K)) = FC at *
    generalize namesOf T role = NN at *
    generalize T.map Row.nm = TN at *
    simp -implicitDefEqProofs [dcStep, scf1, hx, hl, cl]
  have h5 : D.dct ((restOf T role).map fun r => ((.inr r.nm : Key), D.lst (ss (outOf T (cloR T cols) r.nm)))) = outD (namesOf T role) (outOf T (cloR T cols)) := by
    unfold outD kvS namesOf
    rw [List.map_map, List.map_map]
    rfl
  have ol : ∀ a ∈ namesOf T role, (outOf T (cloR T cols) a).length ≤ 1000 := fun a ha => by
    obtain ⟨r, hr, rfl⟩ := List.mem_map.mp ha
    rw [outOf_row nT (hrest r hr)]
    have := List.length_filter_le (fun c => decide (c ∉ cloR T cols)) r.cols
    have := L.c4 r (hT r (hrest r hr))
    omega
  have nl : (namesOf T role).length ≤ 6 := by
    unfold namesOf restOf
    rw [List.length_map]
    have := List.length_filter_le (fun r : Row => !roleIs role r.nm) T
    omega
  obtain ⟨ps, s4, s6, s7, P, pl, e⟩ := p_loop aN ol (by omega) (x0 := scD rows) (x1 := role) (x2 := .tup (ss (T.map Row.nm))) (x3 := .tup (ss K))
  have tl2 : (T.map Row.nm).length ≤ 1000000 := by rw [List.length_map]; omega
  have nl2 : (namesOf T role).length ≤ 1000000 := by omega
  have pl2 : (tsD ps).length ≤ 1000000 := by unfold tsD; rw [List.length_map]; omega
  refine ⟨ps, ?_, P, by omega⟩
  generalize outD (namesOf T role) (outOf T (cloR T cols)) = OD at *
  generalize (restOf T role).map (fun r => ((.inr r.nm : Key), D.lst (ss (outOf T (cloR T cols) r.nm)))) = OK at *
  generalize namesOf T role = NN at *
  generalize T.map Row.nm = TN at *
  simp -implicitDefEqProofs [fn_pieces_in, fnOf_app, b_pieces_in, h1, h2, h3, h4, h5, e, tl2, nl2, pl2]
end Lw
set_option Elab.async false
set_option linter.all false
set_option maxRecDepth 100000
set_option maxHeartbeats 4000000
/-! pieces; the law's groups -/
namespace Lw
open PySem L2 Ft
theorem sc_tables (rows : List Row) : fn_Scene_tables [scD rows] = .ok (.val (.tup (ss (rows.map Row.nm))), []) := by
  simp -implicitDefEqProofs [fn_Scene_tables, fnOf_app, b_Scene_tables, scf2]
theorem pieces_none {rows : List Row} {role : D} {cols : List Str} (M : Made rows) (R : RoleOk rows role cols) :
    ∃ ps, fn_pieces [scD rows, role, .non] = .ok (.val (.tup (tsD ps)), []) ∧ Parts (namesOf rows role) (outOf rows (cloR rows cols)) ps ∧ ps.length ≤ 6 := by
  obtain ⟨ps, e, P, pl⟩ := pieces_in_ok M (fun _ h => h) M.L.asc R
  have h1 := is_role M R
  have h3 : fn_require_role [scD rows, role] = .ok (.val .non, []) := by
    simp -implicitDefEqProofs [fn_require_role, fnOf_app, b_require_role, h1]
  have h2 : fn_require_scene [scD rows] = .ok (.val .non, []) := by
    simp -implicitDefEqProofs [fn_require_scene, fnOf_app, b_require_scene]
  have h4 := sc_tables rows
  have h5 : fn_given_tables [scD rows, role, .non] = .ok (.val (.tup (ss (rows.map Row.nm))), []) := by
    have i1 : dIsNon .non .non = some (.val (.bl true)) := rfl
    generalize rows.map Row.nm = RN at *
    unfold scD at *
    simp -implicitDefEqProofs [fn_given_tables, fnOf_app, b_given_tables, h4, i1]
  refine ⟨ps, ?_, P, pl⟩
  generalize rows.map Row.nm = RN at *
  simp -implicitDefEqProofs [fn_pieces, fnOf_app, b_pieces, h2, h3, h5, e]
theorem pieces_some {rows T : List Row} {role : D} {cols : List Str} (M : Made rows) (hT : ∀ r ∈ T, r ∈ rows) (aT : Asc (T.map Row.nm)) (h0 : T ≠ []) (R : RoleOk rows role cols) (hr : ∀ y, role = .str y → y ∈ T.map Row.nm) :
    ∃ ps, fn_pieces [scD rows, role, .tup (ss (T.map Row.nm))] = .ok (.val (.tup (tsD ps)), []) ∧ Parts (namesOf T role) (outOf T (cloR T cols)) ps ∧ ps.length ≤ 6 := by
  obtain ⟨ps, e, P, pl⟩ := pieces_in_ok M hT aT R
  have h1 := is_role M R
  have h3 : fn_require_role [scD rows, role] = .ok (.val .non, []) := by
    simp -implicitDefEqProofs [fn_require_role, fnOf_app, b_require_role, h1]
  have h2 : fn_require_scene [scD rows] = .ok (.val .non, []) := by
    simp -implicitDefEqProofs [fn_require_scene, fnOf_app, b_require_scene]
  have tl : (T.map Row.nm).length ≤ 1000 := by
    have := nodup_len (asc_nodup aT) (ys := rows.map Row.nm) fun x hx => by
      obtain ⟨r, hr, rfl⟩ := List.mem_map.mp hx
      exact List.mem_map.mpr ⟨r, hT r hr, rfl⟩
    have := M.L.six
    simp at *
    omega
  have h4 := are_tabs (rows := rows) aT (fun x hx => by
    obtain ⟨r, hr, rfl⟩ := List.mem_map.mp hx
    exact M.L.nm r (hT r hr)) (fun x hx => by
    obtain ⟨r, hr, rfl⟩ := List.mem_map.mp hx
    exact List.mem_map.mpr ⟨r, hT r hr, rfl⟩) tl
  have h6 : T.map Row.nm ≠ [] := fun z => h0 (List.map_eq_nil_iff.mp z)
  have h7 : fn_require_tables [scD rows, .tup (ss (T.map Row.nm))] = .ok (.val .non, []) := by
    simp -implicitDefEqProofs [-List.map_eq_nil_iff, fn_require_tables, fnOf_app, b_require_tables, h4, h6]
  have i1 : ∀ ds, dIsNon (.tup ds) .non = some (.val (.bl false)) := fun _ => rfl
  have h5 : fn_given_tables [scD rows, role, .tup (ss (T.map Row.nm))] = .ok (.val (.tup (ss (T.map Row.nm))), []) := by
    cases R with
    | tab hrr hc =>
      have hm := hr _ rfl
      generalize T.map Row.nm = TN at *
      simp -implicitDefEqProofs [fn_given_tables, fnOf_app, b_given_tables, h7, i1, hm]
    | door a h =>
      generalize T.map Row.nm = TN at *
      simp -implicitDefEqProofs [fn_given_tables, fnOf_app, b_given_tables, h7, i1]
  refine ⟨ps, ?_, P, pl⟩
  generalize T.map Row.nm = TN at *
  simp -implicitDefEqProofs [fn_pieces, fnOf_app, b_pieces, h2, h3, h5, e]
/-! ### groups -/
abbrev Gr := List Str × List Str
def gD (g : Gr) : D := .tup [.lst (ss g.1), .lst (ss g.2)]
def gsD (gs : List Gr) : D := .lst (gs.map gD)
structure GI (N : List Str) (out : Str → List Str) (gs : List Gr) : Prop where
  perm : (gs.flatMap fun g => g.1).Perm N
  ne : ∀ g ∈ gs, g.1 ≠ []
  cols : ∀ g ∈ gs, ∀ c, c ∈ g.2 ↔ ∃ n ∈ g.1, c ∈ out n
  conn : ∀ g ∈ gs, ∀ Z, shut N out Z → ∀ a ∈ g.1, Z a → ∀ b ∈ g.1, Z b
  few : (gs.flatMap fun g => g.2).length ≤ 100
def meets (g h : Gr) : Bool := !(g.2.filter fun c => decide (c ∈ h.2)).isEmpty
theorem meets_iff {g h : Gr} : meets g h = true ↔ ∃ c, c ∈ g.2 ∧ c ∈ h.2 := by
  unfold meets
  rw [Bool.not_eq_true', List.isEmpty_eq_false_iff, ne_eq, List.filter_eq_nil_iff]
  constructor
  · intro h
    refine Classical.byContradiction fun z => h fun c hc hq => z ⟨c, hc, of_decide_eq_true hq⟩
  · rintro ⟨c, h1, h2⟩ h
    exact h c h1 (decide_eq_true h2)
def glue (g h : Gr) : Gr := (g.1 ++ h.1, g.2 ++ h.2)
theorem GI.perm_ {N : List Str} {out : Str → List Str} {gs hs : List Gr} (G : GI N out gs) (p : gs.Perm hs) : GI N out hs where
  perm := (p.symm.flatMap_right _).trans G.perm
  ne := fun g hg => G.ne g (p.mem_iff.mpr hg)
  cols := fun g hg => G.cols g (p.mem_iff.mpr hg)
  conn := fun g hg => G.conn g (p.mem_iff.mpr hg)
  few := by rw [(p.symm.flatMap_right _).length_eq]; exact G.few
theorem GI.glue {N : List Str} {out : Str → List Str} {g h : Gr} {gs : List Gr} (G : GI N out (g :: h :: gs)) (hm : meets g h = true) : GI N out (gs ++ [Lw.glue g h]) := by
  obtain ⟨c, c1, c2⟩ := meets_iff.mp hm
  have mg : g ∈ g :: h :: gs := List.mem_cons_self ..
  have mh : h ∈ g :: h :: gs := List.mem_cons_of_mem _ (List.mem_cons_self ..)
  have ms : ∀ k ∈ gs, k ∈ g :: h :: gs := fun k hk => List.mem_cons_of_mem _ (List.mem_cons_of_mem _ hk)
  have inN : ∀ k ∈ g :: h :: gs, ∀ a ∈ k.1, a ∈ N := fun k hk a ha => G.perm.mem_iff.mp (List.mem_flatMap.mpr ⟨k, hk, ha⟩)
  obtain ⟨n1, hn1, o1⟩ := (G.cols g mg c).mp c1
  obtain ⟨n2, hn2, o2⟩ := (G.cols h mh c).mp c2
  have all : ∀ {p : Gr → Prop}, (∀ k ∈ gs, p k) → p (Lw.glue g h) → ∀ k ∈ gs ++ [Lw.glue g h], p k := fun h1 h2 k hk => by
    rcases List.mem_append.mp hk with z | z
    · exact h1 k z
    · rw [List.mem_singleton.mp z]; exact h2
  refine ⟨?_, all (fun k hk => G.ne k (ms k hk)) ?_, all (fun k hk => G.cols k (ms k hk)) fun x => ?_, all (fun k hk => G.conn k (ms k hk)) fun Z hZ a ha za b hb => ?_, ?_⟩
  · refine List.Perm.trans ?_ G.perm
    rw [List.flatMap_append]
    simp only [List.flatMap_cons, List.flatMap_nil, List.append_nil, Lw.glue]
    refine List.perm_append_comm.trans ?_
    rw [List.append_assoc]
  · intro z
    have : g.1 = [] := (List.append_eq_nil_iff.mp z).1
    exact G.ne g mg this
  · show x ∈ g.2 ++ h.2 ↔ ∃ n ∈ g.1 ++ h.1, x ∈ out n
    rw [List.mem_append, G.cols g mg x, G.cols h mh x]
    constructor
    · rintro (⟨n, hn, z⟩ | ⟨n, hn, z⟩)
      · exact ⟨n, List.mem_append.mpr (.inl hn), z⟩
      · exact ⟨n, List.mem_append.mpr (.inr hn), z⟩
    · rintro ⟨n, hn, z⟩
      rcases List.mem_append.mp hn with q | q
      · exact .inl ⟨n, q, z⟩
      · exact .inr ⟨n, q, z⟩
  · have ha : a ∈ g.1 ++ h.1 := ha
    have hb : b ∈ g.1 ++ h.1 := hb
    have z12 : (Z n1 → Z n2) ∧ (Z n2 → Z n1) :=
      ⟨fun z => hZ n1 (inN g mg _ hn1) n2 (inN h mh _ hn2) z ⟨c, o1, o2⟩, fun z => hZ n2 (inN h mh _ hn2) n1 (inN g mg _ hn1) z ⟨c, o2, o1⟩⟩
    have both : Z n1 ∧ Z n2 := by
      rcases List.mem_append.mp ha with q | q
      · have := G.conn g mg Z hZ a q za n1 hn1
        exact ⟨this, z12.1 this⟩
      · have := G.conn h mh Z hZ a q za n2 hn2
        exact ⟨z12.2 this, this⟩
    rcases List.mem_append.mp hb with q | q
    · exact G.conn g mg Z hZ n1 hn1 both.1 b q
    · exact G.conn h mh Z hZ n2 hn2 both.2 b q
  · have := G.few
    rw [List.flatMap_append]
    simp only [List.flatMap_cons, List.flatMap_nil, List.append_nil, Lw.glue, List.length_append] at *
    omega
/-- all but two -/
def remG (gs : List Gr) (i j : Nat) : List Gr := ((gs.zipIdx).filter fun p => !(decide (p.2 = i) || decide (p.2 = j))).map (·.1)
theorem zip_nodup (gs : List Gr) : (gs.zipIdx).Nodup := by
  have h : (gs.zipIdx.map (·.2)).Nodup := by
    rw [List.zipIdx_map_snd]
    exact List.nodup_range'
  exact List.Pairwise.of_map (fun p : Gr × Nat => p.2) (fun a b hne e => hne (by rw [e])) h
theorem rem_perm {gs : List Gr} {i j : Nat} (hi : i < gs.length) (hj : j < gs.length) (hne : i ≠ j) : gs.Perm (gs[i] :: gs[j] :: remG gs i j) := by
  have h1 : (gs.zipIdx.filter fun p => decide (p.2 = i) || decide (p.2 = j)).Perm [(gs[i], i), (gs[j], j)] := by
    refine (List.perm_ext_iff_of_nodup ((zip_nodup gs).filter _) ?_).mpr fun p => ?_
    · simp [hne]
    · obtain ⟨x, k⟩ := p
      rw [List.mem_filter, List.mem_zipIdx_iff_getElem?, Bool.or_eq_true, decide_eq_true_eq, decide_eq_true_eq]
      simp only [List.mem_cons, Prod.mk.injEq, List.not_mem_nil, or_false]
      constructor
      · rintro ⟨e, rfl | rfl⟩
        · rw [List.getElem?_eq_getElem hi] at e
          exact .inl ⟨(Option.some.inj e).symm, rfl⟩
        · rw [List.getElem?_eq_getElem hj] at e
          exact .inr ⟨(Option.some.inj e).symm, rfl⟩
      · rintro (⟨rfl, rfl⟩ | ⟨rfl, rfl⟩)
        · exact ⟨List.getElem?_eq_getElem hi, .inl rfl⟩
        · exact ⟨List.getElem?_eq_getElem hj, .inr rfl⟩
  have h2 := (List.filter_append_perm (fun p : Gr × Nat => decide (p.2 = i) || decide (p.2 = j)) gs.zipIdx).symm
  have h3 := (h2.trans (h1.append_right _)).map (fun p : Gr × Nat => p.1)
  rw [List.zipIdx_map_fst] at h3
  exact h3
theorem rem_len {gs : List Gr} {i j : Nat} (hi : i < gs.length) (hj : j < gs.length) (hne : i ≠ j) : (remG gs i j).length + 2 = gs.length := by
  have := (rem_perm hi hj hne).length_eq
  simp only [List.length_cons] at this
  omega
def apart (gs : List Gr) : Prop := ∀ i (hi : i < gs.length) j (hj : j < i), meets (gs[j]'(by omega)) gs[i] = false
theorem GI.parts {N : List Str} {out : Str → List Str} {gs : List Gr} (G : GI N out gs) (nN : N.Nodup) (ap : apart gs) :
    ∀ qs, qs = gs.map (fun g => sortS g.1) → (∀ p ∈ qs, p ≠ []) ∧ (qs.map hdS).Nodup ∧ ∀ ps : List (List Str), ps.Perm qs → Asc (ps.map hdS) → Parts N out ps := by
  rintro qs rfl
  have fn : (gs.flatMap fun g => g.1).Nodup := G.perm.nodup_iff.mpr nN
  have gn : ∀ g ∈ gs, g.1.Nodup := fun g hg => (List.pairwise_flatMap.mp fn).1 g hg
  have inN : ∀ g ∈ gs, ∀ a ∈ g.1, a ∈ N := fun g hg a ha => G.perm.mem_iff.mp (List.mem_flatMap.mpr ⟨g, hg, ha⟩)
  -- a name stands in one group
  have one : ∀ i (hi : i < gs.length) j (hj : j < gs.length), ∀ a, a ∈ gs[i].1 → a ∈ gs[j].1 → i = j := by
    have hp := (List.pairwise_flatMap.mp fn).2
    rw [List.pairwise_iff_getElem] at hp
    intro i hi j hj a h1 h2
    rcases Nat.lt_trichotomy i j with h | h | h
    · exact absurd rfl (hp i j hi hj h a h1 a h2)
    · exact h
    · exact absurd rfl (hp j i hj hi h a h2 a h1)
  have part : ∀ g ∈ gs, Part N out (sortS g.1) := fun g hg => by
    refine ⟨fun a ha => inN g hg a (mem_sortS.mp ha), fun z => ?_, fun a ha b hb h1 h2 => ?_, fun Z hZ a ha za b hb => G.conn g hg Z hZ a (mem_sortS.mp ha) za b (mem_sortS.mp hb)⟩
    · have : (sortS g.1).length = 0 := by rw [z]; rfl
      rw [sortS_length] at this
      exact G.ne g hg (List.length_eq_zero_iff.mp this)
    · have h1 := mem_sortS.mp h1
      obtain ⟨h, hh, hb2⟩ := List.mem_flatMap.mp (G.perm.mem_iff.mpr hb)
      obtain ⟨c, o1, o2⟩ := h2
      have c1 := (G.cols g hg c).mpr ⟨a, h1, o1⟩
      have c2 := (G.cols h hh c).mpr ⟨b, hb2, o2⟩
      obtain ⟨i, hi, ei⟩ := List.mem_iff_getElem.mp hg
      obtain ⟨j, hj, ej⟩ := List.mem_iff_getElem.mp hh
      rcases Nat.lt_trichotomy i j with q | q | q
      · have := ap j hj i q
        rw [ei, ej] at this
        rw [meets_iff.mpr ⟨c, c1, c2⟩] at this; cases this
      · subst q
        rw [ei] at ej
        rw [ej] 
        exact mem_sortS.mpr hb2
      · have := ap i hi j q
        rw [ei, ej] at this
        rw [meets_iff.mpr ⟨c, c2, c1⟩] at this; cases this
  refine ⟨fun p hp => ?_, ?_, fun ps pm ao => ⟨fun p hp => ?_, fun a ha => ?_, ao⟩⟩
  · obtain ⟨g, hg, rfl⟩ := List.mem_map.mp hp
    exact (part g hg).ne
  · rw [List.map_map]
    refine List.pairwise_iff_getElem.mpr fun i j hi hj hij e => ?_
    simp only [List.getElem_map, List.length_map, Function.comp] at e hi hj
    have h1 := mem_sortS.mp (hd_mem (part _ (List.getElem_mem hi)).ne)
    have h2 := mem_sortS.mp (hd_mem (part _ (List.getElem_mem hj)).ne)
    rw [e] at h1
    have := one i hi j hj _ h1 h2
    omega
  · obtain ⟨g, hg, rfl⟩ := List.mem_map.mp (pm.mem_iff.mp hp)
    exact ⟨part g hg, sortS_asc (gn g hg)⟩
  · obtain ⟨g, hg, h⟩ := List.mem_flatMap.mp (G.perm.mem_iff.mpr ha)
    exact ⟨sortS g.1, pm.mem_iff.mpr (List.mem_map.mpr ⟨g, hg, rfl⟩), mem_sortS.mpr h⟩
end Lw
set_option Elab.async false
set_option linter.all false
set_option maxRecDepth 100000
set_option maxHeartbeats 4000000
/-! the law's groups, walked -/
namespace Lw
open PySem L2 Ft
theorem for_brk {α : Type} {g : GT} {body : SV} {em : α → D} (P : List α → Rho → Prop) (R : Rho → Prop) : ∀ (xs done : List α) (ρ : Rho), P done ρ → (∀ dn x rest ρ, done ++ xs = dn ++ x :: rest → P dn ρ → (∃ ρ2, turn g body (em x) ρ = .ok (.next, ρ2) ∧ P (dn ++ [x]) ρ2) ∨ ∃ ρ2, turn g body (em x) ρ = .ok (.brk, ρ2) ∧ R ρ2) →
    ∃ ρ', forLoop g body (xs.map em) ρ = .ok (.next, ρ') ∧ (P (done ++ xs) ρ' ∨ R ρ')
  | [], done, ρ, h, _ => ⟨ρ, rfl, .inl (by simpa using h)⟩
  | x :: xs, done, ρ, h, st => by
    rcases st done x xs ρ rfl h with ⟨ρ2, e, h2⟩ | ⟨ρ2, e, h2⟩
    · obtain ⟨ρ', e', h'⟩ := for_brk P R xs (done ++ [x]) ρ2 h2 fun dn y rest r q => st dn y rest r (by rw [← q]; simp)
      refine ⟨ρ', ?_, by simpa using h'⟩
      rw [List.map_cons, forLoop_cons, e, res_bindF, forK_next, e']
    · refine ⟨ρ2, ?_, .inr h2⟩
      rw [List.map_cons, forLoop_cons, e, res_bindF]
      rfl
theorem eq_refl_py {d : D} {p : PyData} (h : D.py d = some p) (hf : flatEnough p = true) : dEqB d d = some true := by
  unfold dEqB
  rw [h]
  simp only [hf, if_true]
  rw [PySem.SeqAt.eqv_refl_plain p (py_plain h)]
theorem eqAll_depth : ∀ {xs : List D} {n : Nat}, (∀ x ∈ xs, ∃ p, D.py x = some p ∧ p.depth ≤ n) → ∃ ps, D.pys xs = some ps ∧ PyData.depthAll ps ≤ n + 1
  | [], n, _ => ⟨[], rfl, by simp [PyData.depthAll]⟩
  | x :: xs, n, h => by
    obtain ⟨p, e, hp⟩ := h x (List.mem_cons_self ..)
    obtain ⟨ps, e2, hp2⟩ := eqAll_depth (xs := xs) (n := n) fun y hy => h y (List.mem_cons_of_mem _ hy)
    refine ⟨p :: ps, by rw [D.pys, e, e2], ?_⟩
    simp only [PyData.depthAll]
    omega
theorem py_tup {xs : List D} {n : Nat} (h : ∀ x ∈ xs, ∃ p, D.py x = some p ∧ p.depth ≤ n) : ∃ p, D.py (.tup xs) = some p ∧ p.depth ≤ n + 2 := by
  obtain ⟨ps, e, hp⟩ := eqAll_depth h
  refine ⟨.tuple ps, by rw [D.py, e]; rfl, ?_⟩
  simp only [PyData.depth]
  omega
theorem py_ss (xs : List Str) : ∃ p, D.py (.tup (ss xs)) = some p ∧ p.depth ≤ 3 := by
  obtain ⟨p, e, h⟩ := py_tup (xs := ss xs) (n := 1) fun x hx => by
    obtain ⟨y, _, rfl⟩ := List.mem_map.mp hx
    exact ⟨.str y, rfl, by simp [PyData.depth]⟩
  exact ⟨p, e, h⟩
theorem eq_ts (ps : List (List Str)) : dEqB (.tup (tsD ps)) (.tup (tsD ps)) = some true := by
  obtain ⟨p, e, h⟩ := py_tup (xs := tsD ps) (n := 3) fun x hx => by
    obtain ⟨r, _, rfl⟩ := List.mem_map.mp hx
    exact py_ss r
  refine eq_refl_py e ?_
  unfold flatEnough
  rw [decide_eq_true_eq]
  omega
/-! numbers in lists -/
def ns (js : List Nat) : List D := js.map fun j : Nat => D.int (j : Int)
theorem pys_ns : ∀ js : List Nat, D.pys (ns js) = some (js.map fun j : Nat => PyData.int (j : Int))
  | [] => rfl
  | j :: js => by
    show D.pys (D.int (j : Int) :: ns js) = _
    rw [D.pys, pys_ns js]
    rfl
theorem eq_ns (js : List Nat) : dEqB (.lst (ns js)) (.lst []) = some (decide (js = [])) := by
  have hd : (PyData.list (js.map fun j : Nat => PyData.int (j : Int))).depth ≤ 3 := by
    have h : ∀ xs : List Nat, PyData.depthAll (xs.map fun j : Nat => PyData.int (j : Int)) ≤ 2 := by
      intro xs
      induction xs with
      | nil => simp [PyData.depthAll]
      | cons y ys ih => simp only [List.map_cons, PyData.depthAll, PyData.depth]; omega
    have := h js
    simp only [PyData.depth]
    omega
  have hf : flatEnough (PyData.list (js.map fun j : Nat => PyData.int (j : Int))) = true := by
    unfold flatEnough
    rw [decide_eq_true_eq]
    omega
  unfold dEqB
  simp only [D.py, pys_ns, D.pys, Option.map_some, hf, if_true]
  cases js with
  | nil => simp [PyData.eqv, PyData.eqvAll]
  | cons j js => simp [PyData.eqv, PyData.eqvAll]
theorem in_two (k a b : Int) : dInB (.int k) (.tup [.int a, .int b]) = some (decide (k = a) || decide (k = b)) := by
  have h : ∀ x y : Int, (x == y) = decide (y = x) := fun x y => by
    rw [Bool.eq_iff_iff, beq_iff_eq, decide_eq_true_eq]
    exact eq_comm
  unfold dInB
  simp [D.py, D.pys, PyData.eqv, flatEnough, PyData.depth, h]
theorem eq_int (i j : Int) : dEqB (.int i) (.int j) = some (decide (i = j)) := by
  have h : ∀ x y : Int, (x == y) = decide (x = y) := fun x y => by
    rw [Bool.eq_iff_iff, beq_iff_eq, decide_eq_true_eq]
  unfold dEqB
  simp [D.py, PyData.eqv, flatEnough, PyData.depth, h]
def gAt (gs : List Gr) (i : Nat) : Gr := gs.getD i ([], [])
theorem gAt_eq {gs : List Gr} {i : Nat} (h : i < gs.length) : gAt gs i = gs[i] := by
  unfold gAt
  rw [List.getD_eq_getElem?_getD, List.getElem?_eq_getElem h]
  rfl
theorem gs_ix {gs : List Gr} {i : Nat} (h : i < gs.length) : dIx (gsD gs) (.int (i : Int)) = some (.val (gD (gAt gs i))) := by
  unfold gsD
  refine dIx_at _ _ _ ?_
  rw [List.getElem?_map, List.getElem?_eq_getElem h, gAt_eq h]
  rfl
theorem g_0 (g : Gr) : dIx (gD g) (.int 0) = some (.val (.lst (ss g.1))) := by
  unfold gD
  simp [dIx_tup, ixN]
theorem g_1 (g : Gr) : dIx (gD g) (.int 1) = some (.val (.lst (ss g.2))) := by
  unfold gD
  simp [dIx_tup, ixN]
def nearL (gs : List Gr) (i : Nat) : List Nat := (List.range i).filter fun j => meets (gAt gs j) (gAt gs i)
abbrev nearC : EV := (evLc (ivRange1 (evVar 6)) (gtName 11) (tst (evOp2 dNe (evLc (ivOf (evOp2 dIx (evOp2 dIx (evVar 4) (evVar 11)) (evC (.int 1)))) (gtName 10) (tst (evOp2 dIn (evVar 10) (evOp2 dIx (evOp2 dIx (evVar 4) (evVar 6)) (evC (.int 1))))) (evVar 10) [10]) (evLst (gvNil)))) (evVar 11) [11])
abbrev grIn : SV := (svSeq (svSet 7 nearC) (svIf (tst (evOp2 dNe (evVar 7) (evLst (gvNil)))) (svSeq (svSet 8 (evTup (gvCons (evOp2 dAdd (evOp2 dIx (evOp2 dIx (evVar 4) (evOp2 dIx (evVar 7) (evC (.int 0)))) (evC (.int 0))) (evOp2 dIx (evOp2 dIx (evVar 4) (evVar 6)) (evC (.int 0)))) (gvCons (evOp2 dAdd (evOp2 dIx (evOp2 dIx (evVar 4) (evOp2 dIx (evVar 7) (evC (.int 0)))) (evC (.int 1))) (evOp2 dIx (evOp2 dIx (evVar 4) (evVar 6)) (evC (.int 1)))) (gvNil))))) (svSeq (svSet 4 (evOp2 dAdd (evLc (ivEnum (evVar 4)) (gtTup 2 (gtCons (gtName 11) (gtCons (gtName 12) (gtNil)))) (tst (evOp2 dNotIn (evVar 11) (evTup (gvCons (evOp2 dIx (evVar 7) (evC (.int 0))) (gvCons (evVar 6) (gvNil)))))) (evVar 12) [11, 12]) (evLst (gvCons (evVar 8) (gvNil))))) (svBreak))) (svNext)))
theorem near_ok {gs : List Gr} (gl : gs.length ≤ 100) (cl : ∀ g ∈ gs, g.2.length ≤ 1000) {i : Nat} (hi : i < gs.length) {a0 a1 a2 a3 s4 a5 s7 s8 : Slot} (h4 : s4 = .ow (gsD gs) ∨ s4 = .sh (gsD gs)) :
    lcLoop (gtName 11) (tst (evOp2 dNe (evLc (ivOf (evOp2 dIx (evOp2 dIx (evVar 4) (evVar 11)) (evC (.int 1)))) (gtName 10) (tst (evOp2 dIn (evVar 10) (evOp2 dIx (evOp2 dIx (evVar 4) (evVar 6)) (evC (.int 1))))) (evVar 10) [10]) (evLst (gvNil)))) (evVar 11) [11] (rangeD 0 i) [a0, a1, a2, a3, s4, a5, .sh (.int (i : Int)), s7, s8, .no, .no, .no, .no, .no, .no] = .ok (ns (nearL gs i), [a0, a1, a2, a3, s4, a5, .sh (.int (i : Int)), s7, s8, .no, .no, .no, .no, .no, .no]) := by
  have e0 : rangeD 0 i = (List.range i).map fun j : Nat => D.int (0 + (j : Int)) := rfl
  rw [e0]
  refine lc_filter (em := fun j : Nat => D.int (0 + (j : Int))) (fun j => meets (gAt gs j) (gAt gs i)) (fun j : Nat => D.int (j : Int)) (List.range i) fun j hj => ?_
  have hj : j < i := List.mem_range.mp hj
  have hjl : j < gs.length := by omega
  have x1 := gs_ix hjl
  have x2 := gs_ix hi
  have x3 := g_1 (gAt gs j)
  have x4 := g_1 (gAt gs i)
  have cj : (gAt gs j).2.length ≤ 1000000 := by rw [gAt_eq hjl]; have := cl _ (List.getElem_mem hjl); omega
  have hl : lcLoop (gtName 10) (tst (evOp2 dIn (evVar 10) (evOp2 dIx (evOp2 dIx (evVar 4) (evVar 6)) (evC (.int 1))))) (evVar 10) [10] (ss (gAt gs j).2) [a0, a1, a2, a3, s4, a5, .sh (.int (i : Int)), s7, s8, .no, .no, .sh (.int (j : Int)), .no, .no, .no] = .ok (ss ((gAt gs j).2.filter fun c => decide (c ∈ (gAt gs i).2)), [a0, a1, a2, a3, s4, a5, .sh (.int (i : Int)), s7, s8, .no, .no, .sh (.int (j : Int)), .no, .no, .no]) :=
    lc_filter (em := D.str) (fun c => decide (c ∈ (gAt gs i).2)) D.str (gAt gs j).2 fun x _ => by
      rcases h4 with rfl | rfl <;> by_cases h : x ∈ (gAt gs i).2 <;> simp -implicitDefEqProofs [lcStep, x2, x4, h]
  have hm : meets (gAt gs j) (gAt gs i) = !decide (((gAt gs j).2.filter fun c => decide (c ∈ (gAt gs i).2)) = []) := by
    unfold meets
    congr 1
    rw [Bool.eq_iff_iff, List.isEmpty_iff, decide_eq_true_eq]
  rw [hm]
  generalize ((gAt gs j).2.filter fun c => decide (c ∈ (gAt gs i).2)) = FC at *
  generalize gsD gs = GD at *
  generalize gD (gAt gs j) = GJ at *
  generalize gD (gAt gs i) = GI0 at *
  by_cases hz : FC = []
  · rcases h4 with rfl | rfl <;> simp -implicitDefEqProofs [lcStep, x1, x3, cj, hl, hz]
  · rcases h4 with rfl | rfl <;> simp -implicitDefEqProofs [lcStep, x1, x3, cj, hl, hz]
theorem gr_turn {N : List Str} {out : Str → List Str} {gs : List Gr} (G : GI N out gs) (gl : gs.length ≤ 100) (Nl : N.length ≤ 100) {i : Nat} (hi : i < gs.length) {a0 a1 a2 a3 s4 a5 s6 s7 s8 : Slot} (h4 : s4 = .ow (gsD gs) ∨ s4 = .sh (gsD gs)) (f6 : Slot.soft s6) (f7 : Slot.soft s7) (f8 : Slot.soft s8) :
    ((∀ j, j < i → meets (gAt gs j) (gAt gs i) = false) ∧ turn (gtName 6) grIn (.int (0 + (i : Int))) [a0, a1, a2, a3, s4, a5, s6, s7, s8, .no, .no, .no, .no, .no, .no] = .ok (.next, [a0, a1, a2, a3, s4, a5, .sh (.int (i : Int)), .ow (.lst (ns [])), s8, .no, .no, .no, .no, .no, .no])) ∨
    ∃ hs, GI N out hs ∧ hs.length + 1 = gs.length ∧ ∃ s7' s8', Slot.soft s7' ∧ Slot.soft s8' ∧ turn (gtName 6) grIn (.int (0 + (i : Int))) [a0, a1, a2, a3, s4, a5, s6, s7, s8, .no, .no, .no, .no, .no, .no] = .ok (.brk, [a0, a1, a2, a3, .ow (gsD hs), a5, .sh (.int (i : Int)), s7', s8', .no, .no, .no, .no, .no, .no]) := by
  have colL : ∀ g ∈ gs, g.2.length ≤ 100 := fun g hg => by
    have h1 : g.2.length ≤ (gs.flatMap fun g => g.2).length := by
      obtain ⟨a, b, rfl⟩ := List.append_of_mem hg
      rw [List.flatMap_append, List.flatMap_cons, List.length_append, List.length_append]
      omega
    have := G.few
    omega
  have namL : ∀ g ∈ gs, g.1.length ≤ 100 := fun g hg => by
    have h1 : g.1.length ≤ (gs.flatMap fun g => g.1).length := by
      obtain ⟨a, b, rfl⟩ := List.append_of_mem hg
      rw [List.flatMap_append, List.flatMap_cons, List.length_append, List.length_append]
      omega
    have := G.perm.length_eq
    omega
  have hn := near_ok gl (fun g hg => by have := colL g hg; omega) hi (a0 := a0) (a1 := a1) (a2 := a2) (a3 := a3) (a5 := a5) (s7 := s7) (s8 := s8) h4
  have f62 : few62 (i : Int) = true := by
    unfold few62
    simp only [Bool.and_eq_true, decide_eq_true_eq]
    omega
  have rgl : (rangeD 0 i).length ≤ 1000000 := by
    unfold rangeD
    rw [List.length_map, List.length_range]
    omega
  cases hnr : nearL gs i with
  | nil =>
    refine .inl ⟨fun j hj => ?_, ?_⟩
    · have := List.filter_eq_nil_iff.mp hnr j (List.mem_range.mpr hj)
      simpa using this
    · rw [hnr] at hn
      have e1 := eq_ns []
      have e1 : dEqB (.lst (ns [])) (.lst []) = some true := by rw [e1]; rfl
      generalize ns [] = NS at *
      generalize gsD gs = GD at *
      rcases h4 with rfl | rfl <;> simp -implicitDefEqProofs [turn, storeAt_soft, f6, f7, f62, rgl, hn, e1]
  | cons j0 js =>
    have hj0 : j0 ∈ nearL gs i := by rw [hnr]; exact List.mem_cons_self ..
    obtain ⟨hj1, hj2⟩ := List.mem_filter.mp hj0
    have hji : j0 < i := List.mem_range.mp hj1
    have hjl : j0 < gs.length := by omega
    rw [gAt_eq hjl, gAt_eq hi] at hj2
    have pm := rem_perm hjl hi (by omega)
    have rl := rem_len hjl hi (by omega)
    refine .inr ⟨remG gs j0 i ++ [glue gs[j0] gs[i]], (G.perm_ pm).glue hj2, by rw [List.length_append, List.length_singleton]; omega, .ow (.lst (ns (j0 :: js))), .sh (gD (glue gs[j0] gs[i])), soft_ow _, soft_sh _, ?_⟩
    rw [hnr] at hn
    have e1 := eq_ns (j0 :: js)
    have e1 : dEqB (.lst (ns (j0 :: js))) (.lst []) = some false := by rw [e1]; simp
    have e2 : dIx (.lst (ns (j0 :: js))) (.int 0) = some (.val (.int (j0 : Int))) := dIx_at _ 0 _ rfl
    have x1 := gs_ix hjl
    have x2 := gs_ix hi
    rw [gAt_eq hjl] at x1
    rw [gAt_eq hi] at x2
    have x3 := g_0 gs[j0]
    have x4 := g_0 gs[i]
    have x5 := g_1 gs[j0]
    have x6 := g_1 gs[i]
    have add : ∀ as bs : List Str, as.length ≤ 100 → bs.length ≤ 100 → dAdd (.lst (ss as)) (.lst (ss bs)) = some (.tmp (.lst (ss (as ++ bs)))) := fun as bs ha hb => by
      rw [← ss_app]
      exact if_pos (by simp only [ss_len]; omega)
    have a1' := add gs[j0].1 gs[i].1 (namL _ (List.getElem_mem hjl)) (namL _ (List.getElem_mem hi))
    have a2' := add gs[j0].2 gs[i].2 (colL _ (List.getElem_mem hjl)) (colL _ (List.getElem_mem hi))
    have gd : D.tup [.lst (ss (gs[j0].1 ++ gs[i].1)), .lst (ss (gs[j0].2 ++ gs[i].2))] = gD (glue gs[j0] gs[i]) := rfl
    have en : enumD (gs.map gD) = gs.zipIdx.map fun p => .tup [.int (p.2 : Int), gD p.1] := by
      unfold enumD
      rw [List.zipIdx_map, List.map_map]
      rfl
    have lc : lcLoop (gtTup 2 (gtCons (gtName 11) (gtCons (gtName 12) (gtNil)))) (tst (evOp2 dNotIn (evVar 11) (evTup (gvCons (evOp2 dIx (evVar 7) (evC (.int 0))) (gvCons (evVar 6) (gvNil)))))) (evVar 12) [11, 12] (enumD (gs.map gD)) [a0, a1, a2, a3, .sh (gsD gs), a5, .sh (.int (i : Int)), .ow (.lst (ns (j0 :: js))), .sh (gD (glue gs[j0] gs[i])), .no, .no, .no, .no, .no, .no] = .ok ((remG gs j0 i).map gD, [a0, a1, a2, a3, .sh (gsD gs), a5, .sh (.int (i : Int)), .ow (.lst (ns (j0 :: js))), .sh (gD (glue gs[j0] gs[i])), .no, .no, .no, .no, .no, .no]) := by
      rw [en]
      have := lc_filter (g := gtTup 2 (gtCons (gtName 11) (gtCons (gtName 12) (gtNil)))) (tt := tst (evOp2 dNotIn (evVar 11) (evTup (gvCons (evOp2 dIx (evVar 7) (evC (.int 0))) (gvCons (evVar 6) (gvNil)))))) (f := evVar 12) (vs := [11, 12]) (em := fun p : Gr × Nat => D.tup [.int (p.2 : Int), gD p.1]) (ρ0 := [a0, a1, a2, a3, .sh (gsD gs), a5, .sh (.int (i : Int)), .ow (.lst (ns (j0 :: js))), .sh (gD (glue gs[j0] gs[i])), .no, .no, .no, .no, .no, .no]) (fun p => !(decide (p.2 = j0) || decide (p.2 = i))) (fun p => gD p.1) gs.zipIdx fun p _ => by
        have hin := in_two (p.2 : Int) (j0 : Int) (i : Int)
        have c1 : ((p.2 : Int) = (j0 : Int)) = (p.2 = j0) := propext (by omega)
        have c2 : ((p.2 : Int) = (i : Int)) = (p.2 = i) := propext (by omega)
        simp only [c1, c2] at hin
        generalize gD p.1 = GP at *
        generalize gD (glue gs[j0] gs[i]) = GG at *
        generalize gsD gs = GD at *
        generalize ns (j0 :: js) = NS at *
        by_cases q1 : p.2 = j0 <;> by_cases q2 : p.2 = i <;> simp only [q1, q2, decide_true, decide_false, Bool.or_false, Bool.or_true, Bool.false_or, Bool.true_or] at hin ⊢ <;> simp -implicitDefEqProofs [lcStep, e2, hin]
      rw [this]
      unfold remG
      rw [List.map_map]
      rfl
    have ad : dAdd (.lst ((remG gs j0 i).map gD)) (.lst [gD (glue gs[j0] gs[i])]) = some (.tmp (gsD (remG gs j0 i ++ [glue gs[j0] gs[i]]))) := by
      unfold gsD
      rw [List.map_append]
      exact if_pos (by rw [List.length_map, List.length_singleton]; omega)
    have gl2 : (enumD (gs.map gD)).length ≤ 1000000 := by unfold enumD; rw [List.length_map, List.length_zipIdx, List.length_map]; omega
    have geq : gsD gs = .lst (gs.map gD) := rfl
    have gd' := gd
    generalize gD (glue gs[j0] gs[i]) = GG at *
    generalize gsD (remG gs j0 i ++ [glue gs[j0] gs[i]]) = GN at *
    generalize (remG gs j0 i).map gD = RG at *
    generalize ns (j0 :: js) = NS at *
    generalize gD gs[j0] = GJ at *
    generalize gD gs[i] = GI0 at *
    rw [geq] at h4 x1 x2 lc
    generalize gs.map gD = GL at *
    generalize ss (gs[j0].1 ++ gs[i].1) = Q1 at *
    generalize ss (gs[j0].2 ++ gs[i].2) = Q2 at *
    generalize ss gs[j0].1 = P1 at *
    generalize ss gs[j0].2 = P2 at *
    generalize ss gs[i].1 = P3 at *
    generalize ss gs[i].2 = P4 at *
    rcases h4 with rfl | rfl <;> simp -implicitDefEqProofs [turn, storeAt_soft, f6, f7, f8, f62, rgl, hn, e1, e2, x1, x2, x3, x4, x5, x6, a1', a2', gd', lc, ad, gl2]
end Lw
set_option Elab.async false
set_option linter.all false
set_option maxRecDepth 100000
set_option maxHeartbeats 4000000
/-! the law's groups: the whole; a case of the law -/
namespace Lw
open PySem L2 Ft
theorem gr_for {N : List Str} {out : Str → List Str} {gs : List Gr} (G : GI N out gs) (gl : gs.length ≤ 100) (Nl : N.length ≤ 100) {a0 a1 a2 a3 s4 a5 s6 s7 s8 : Slot} (h4 : s4 = .ow (gsD gs) ∨ s4 = .sh (gsD gs)) (f6 : Slot.soft s6) (f7 : Slot.soft s7) (f8 : Slot.soft s8) :
    ∃ hs s4' s6' s7' s8', GI N out hs ∧ (s4' = .ow (gsD hs) ∨ s4' = .sh (gsD hs)) ∧ ((hs = gs ∧ apart gs) ∨ hs.length + 1 = gs.length) ∧ Slot.soft s6' ∧ Slot.soft s7' ∧ Slot.soft s8' ∧
      forLoop (gtName 6) grIn (rangeD 0 gs.length) [a0, a1, a2, a3, s4, a5, s6, s7, s8, .no, .no, .no, .no, .no, .no] = .ok (.next, [a0, a1, a2, a3, s4', a5, s6', s7', s8', .no, .no, .no, .no, .no, .no]) := by
  obtain ⟨ρ', e, h⟩ := for_brk (g := gtName 6) (body := grIn) (em := fun i : Nat => D.int (0 + (i : Int)))
    (fun dn ρ => ∃ s6 s7 s8, Slot.soft s6 ∧ Slot.soft s7 ∧ Slot.soft s8 ∧ (∀ i ∈ dn, ∀ j, j < i → meets (gAt gs j) (gAt gs i) = false) ∧ ρ = [a0, a1, a2, a3, s4, a5, s6, s7, s8, .no, .no, .no, .no, .no, .no])
    (fun ρ => ∃ hs s6 s7 s8, GI N out hs ∧ hs.length + 1 = gs.length ∧ Slot.soft s6 ∧ Slot.soft s7 ∧ Slot.soft s8 ∧ ρ = [a0, a1, a2, a3, .ow (gsD hs), a5, s6, s7, s8, .no, .no, .no, .no, .no, .no])
    (List.range gs.length) [] [a0, a1, a2, a3, s4, a5, s6, s7, s8, .no, .no, .no, .no, .no, .no] ⟨s6, s7, s8, f6, f7, f8, (fun i h => nomatch h), rfl⟩ (by
      rintro dn i rest ρ hq ⟨s6, s7, s8, f6, f7, f8, hd, rfl⟩
      rw [List.nil_append] at hq
      have hi : i < gs.length := List.mem_range.mp (by rw [hq]; simp)
      rcases gr_turn G gl Nl hi (a0 := a0) (a1 := a1) (a2 := a2) (a3 := a3) (a5 := a5) h4 f6 f7 f8 with ⟨h1, h2⟩ | ⟨hs, h1, h2, s7', s8', g7, g8, h3⟩
      · refine .inl ⟨_, h2, _, _, _, soft_sh _, soft_ow _, f8, fun k hk j hj => ?_, rfl⟩
        rcases List.mem_append.mp hk with z | z
        · exact hd k z j hj
        · rw [List.mem_singleton.mp z] at hj ⊢
          exact h1 j hj
      · exact .inr ⟨_, h3, hs, _, _, _, h1, h2, soft_sh _, g7, g8, rfl⟩)
  rw [List.nil_append] at h
  have e0 : rangeD 0 gs.length = (List.range gs.length).map fun i : Nat => D.int (0 + (i : Int)) := rfl
  rw [e0]
  rcases h with ⟨t6, t7, t8, g6, g7, g8, hd, rfl⟩ | ⟨hs, t6, t7, t8, h1, h2, g6, g7, g8, rfl⟩
  · refine ⟨gs, s4, t6, t7, t8, G, h4, .inl ⟨rfl, fun i hi j hj => ?_⟩, g6, g7, g8, e⟩
    have := hd i (List.mem_range.mpr hi) j hj
    rw [gAt_eq (by omega), gAt_eq hi] at this
    exact this
  · exact ⟨hs, _, t6, t7, t8, h1, .inl rfl, .inr h2, g6, g7, g8, e⟩
abbrev grBody : SV := (svSeq (svSet 5 (evOps dLen (avCons (evVar 4) (avNil)))) (svFor (ivRange1 (evVar 5)) (gtName 6) grIn))
theorem gr_while {N : List Str} {out : Str → List Str} {gs : List Gr} (G : GI N out gs) (gl : gs.length ≤ 100) (Nl : N.length ≤ 100) {a0 a1 a2 a3 : Slot} :
    ∃ hs s4 s5 s6 s7 s8, GI N out hs ∧ apart hs ∧ hs.length ≤ 100 ∧ (s4 = .ow (gsD hs) ∨ s4 = .sh (gsD hs)) ∧ whileLoop (tst (evOp2 dNe (evVar 5) (evOps dLen (avCons (evVar 4) (avNil))))) grBody 1000000 [a0, a1, a2, a3, .ow (gsD gs), .sh (.int (-1)), .no, .no, .no, .no, .no, .no, .no, .no, .no] = .ok (.next, [a0, a1, a2, a3, s4, s5, s6, s7, s8, .no, .no, .no, .no, .no, .no]) := by
  have dl : ∀ hs : List Gr, dLen [gsD hs] = some (.val (.int (hs.length : Int))) := fun hs => by
    unfold gsD
    show some (Hd.val (D.int ((hs.map gD).length : Int))) = _
    rw [List.length_map]
  have W := while_inv (c := tst (evOp2 dNe (evVar 5) (evOps dLen (avCons (evVar 4) (avNil))))) (body := grBody)
    (fun m ρ => ∃ (gs : List Gr) (sz : Int) (s4 s6 s7 s8 : Slot), GI N out gs ∧ gs.length ≤ 100 ∧ (s4 = .ow (gsD gs) ∨ s4 = .sh (gsD gs)) ∧ Slot.soft s6 ∧ Slot.soft s7 ∧ Slot.soft s8 ∧ ((sz = gs.length ∧ apart gs) ∨ (sz ≠ gs.length ∧ gs.length + 1 ≤ m)) ∧ ρ = [a0, a1, a2, a3, s4, .sh (.int sz), s6, s7, s8, .no, .no, .no, .no, .no, .no])
    (fun o ρ => ∃ (hs : List Gr) (s4 s5 s6 s7 s8 : Slot), o = .next ∧ GI N out hs ∧ apart hs ∧ hs.length ≤ 100 ∧ (s4 = .ow (gsD hs) ∨ s4 = .sh (gsD hs)) ∧ ρ = [a0, a1, a2, a3, s4, s5, s6, s7, s8, .no, .no, .no, .no, .no, .no])
    (by
      rintro m ρ ⟨gs, sz, s4, s6, s7, s8, G, gl, h4, f6, f7, f8, hm, rfl⟩
      have d1 := dl gs
      have q1 := eq_int sz (gs.length : Int)
      rcases hm with ⟨hsz, ap⟩ | ⟨hne, hm⟩
      · refine .inl ⟨.next, [a0, a1, a2, a3, s4, .sh (.int sz), s6, s7, s8, .no, .no, .no, .no, .no, .no], ?_, rfl, gs, s4, _, s6, s7, s8, rfl, G, ap, gl, h4, rfl⟩
        rw [decide_eq_true hsz] at q1
        generalize gsD gs = GD at *
        rcases h4 with rfl | rfl <;> simp -implicitDefEqProofs [d1, q1]
      · refine .inr ⟨[a0, a1, a2, a3, s4, .sh (.int sz), s6, s7, s8, .no, .no, .no, .no, .no, .no], ?_, .inl ⟨m - 1, ?_⟩⟩
        · rw [decide_eq_false hne] at q1
          generalize gsD gs = GD at *
          rcases h4 with rfl | rfl <;> simp -implicitDefEqProofs [d1, q1]
        · obtain ⟨hs, t4, t6, t7, t8, H, k4, hl, g6, g7, g8, lp⟩ := gr_for G gl Nl (a0 := a0) (a1 := a1) (a2 := a2) (a3 := a3) (a5 := .sh (.int (gs.length : Int))) h4 f6 f7 f8
          refine ⟨[a0, a1, a2, a3, t4, .sh (.int (gs.length : Int)), t6, t7, t8, .no, .no, .no, .no, .no, .no], ?_, by omega, hs, (gs.length : Int), t4, t6, t7, t8, H, ?_, k4, g6, g7, g8, ?_, rfl⟩
          · have f62 : few62 (gs.length : Int) = true := by
              unfold few62
              simp only [Bool.and_eq_true, decide_eq_true_eq]
              omega
            have rgl : (rangeD 0 gs.length).length ≤ 1000000 := by
              unfold rangeD
              rw [List.length_map, List.length_range]
              omega
            generalize gsD gs = GD at *
            rcases h4 with rfl | rfl <;> simp -implicitDefEqProofs [grBody, d1, f62, lp]
          · rcases hl with ⟨rfl, _⟩ | hl <;> omega
          · rcases hl with ⟨rfl, ap⟩ | hl
            · exact .inl ⟨rfl, ap⟩
            · exact .inr ⟨by omega, by omega⟩)
    (gs.length + 1) 1000000 [a0, a1, a2, a3, .ow (gsD gs), .sh (.int (-1)), .no, .no, .no, .no, .no, .no, .no, .no, .no] ⟨gs, -1, _, .no, .no, .no, G, gl, .inl rfl, soft_no, soft_no, soft_no, .inr ⟨by omega, by omega⟩, rfl⟩ (by omega)
  obtain ⟨o, ρ', e, hs, s4, s5, s6, s7, s8, rfl, H, ap, hl, h4, rfl⟩ := W
  exact ⟨hs, s4, s5, s6, s7, s8, H, ap, hl, h4, e⟩
theorem law_groups {rows T : List Row} {role : D} {cols : List Str} (M : Made rows) (hT : ∀ r ∈ T, r ∈ rows) (aT : Asc (T.map Row.nm)) (R : RoleOk rows role cols) :
    ∃ ps, fn__law_groups [rowsD rows, role, .lst (ss (T.map Row.nm))] = .ok (.val (.tup (tsD ps)), []) ∧ Parts (namesOf T role) (outOf T (cloR T cols)) ps := by
  have A := R.asked M
  have L := M.L
  have nn := asc_nodup L.asc
  have nT := asc_nodup aT
  have tl : T.length ≤ 6 := by
    have := nodup_len nT (ys := rows.map Row.nm) fun x hx => by
      obtain ⟨r, hr, rfl⟩ := List.mem_map.mp hx
      exact List.mem_map.mpr ⟨r, hT r hr, rfl⟩
    have := L.six
    simp at *
    omega
  have h1 := law_role_cols L R
  obtain ⟨h, h2, hh⟩ := law_closure L hT tl (cols := cols) (by have := A.cl; omega)
  have aN : Asc (namesOf T role) := asc_sub (List.filter_sublist.map Row.nm) aT
  have hrest : ∀ r ∈ restOf T role, r ∈ T := fun r hr => (List.mem_filter.mp hr).1
  have nl : (restOf T role).length ≤ 6 := by
    unfold restOf
    have := List.length_filter_le (fun r : Row => !roleIs role r.nm) T
    omega
  -- the first groups
  have h3 : ∀ s3 : Slot, (s3 = .ow (.lst (ss (cloR T cols))) ∨ s3 = .sh (.lst (ss (cloR T cols)))) → lcLoop (gtName 9) (tst (evOp2 dNe (evVar 9) (evVar 1))) (evTup (gvCons (evLst (gvCons (evVar 9) (gvNil))) (gvCons (evLc (ivOf (evOp2 dIx (evOp2 dIx (evVar 0) (evVar 9)) (evC (.int 0)))) (gtName 10) (tst (evOp2 dNotIn (evVar 10) (evVar 3))) (evVar 10) [10]) (gvNil)))) [9] (ss (T.map Row.nm)) [.sh (rowsD rows), .sh role, .sh (.lst (ss (T.map Row.nm))), s3, .no, .no, .no, .no, .no, .no, .no, .no, .no, .no, .no] = .ok ((restOf T role).map fun r => gD ([r.nm], outOf T (cloR T cols) r.nm), [.sh (rowsD rows), .sh role, .sh (.lst (ss (T.map Row.nm))), s3, .no, .no, .no, .no, .no, .no, .no, .no, .no, .no, .no]) := by
    intro s3 hs3
    have e0 : ss (T.map Row.nm) = T.map (D.str ∘ Row.nm) := by rw [ss_eq, List.map_map]
    have := lc_filter (g := gtName 9) (tt := tst (evOp2 dNe (evVar 9) (evVar 1))) (f := evTup (gvCons (evLst (gvCons (evVar 9) (gvNil))) (gvCons (evLc (ivOf (evOp2 dIx (evOp2 dIx (evVar 0) (evVar 9)) (evC (.int 0)))) (gtName 10) (tst (evOp2 dNotIn (evVar 10) (evVar 3))) (evVar 10) [10]) (gvNil)))) (vs := [9]) (em := D.str ∘ Row.nm) (ρ0 := [.sh (rowsD rows), .sh role, .sh (.lst (ss (T.map Row.nm))), s3, .no, .no, .no, .no, .no, .no, .no, .no, .no, .no, .no]) (fun r => !roleIs role r.nm) (fun r => gD ([r.nm], outOf T (cloR T cols) r.nm)) T fun r hr => by
      have er := eq_role R r.nm
      have hd := dIx_row nn (hT r hr)
      have c4 := L.c4 r (hT r hr)
      have cl : r.cols.length ≤ 1000000 := by omega
      have hl : lcLoop (gtName 10) (tst (evOp2 dNotIn (evVar 10) (evVar 3))) (evVar 10) [10] (ss r.cols) [.sh (rowsD rows), .sh role, .sh (.lst (ss (T.map Row.nm))), s3, .no, .no, .no, .no, .no, .sh (.str r.nm), .no, .no, .no, .no, .no] = .ok (ss (r.cols.filter fun c => decide (c ∉ cloR T cols)), [.sh (rowsD rows), .sh role, .sh (.lst (ss (T.map Row.nm))), s3, .no, .no, .no, .no, .no, .sh (.str r.nm), .no, .no, .no, .no, .no]) :=
        lc_filter (em := D.str) (fun c => decide (c ∉ cloR T cols)) D.str r.cols fun x _ => by
          rcases hs3 with rfl | rfl <;> by_cases h : x ∈ cloR T cols <;> simp -implicitDefEqProofs [lcStep, h]
      have eg : gD ([r.nm], outOf T (cloR T cols) r.nm) = .tup [.lst [.str r.nm], .lst (ss (r.cols.filter fun c => decide (c ∉ cloR T cols)))] := by
        rw [outOf_row nT hr]
        rfl
      rw [eg]
      generalize (r.cols.filter fun c => decide (c ∉ cloR T cols)) = FC at *
      generalize cloR T cols = CR at *
      generalize T.map Row.nm = TN at *
      cases hb : roleIs role r.nm <;> rw [hb] at er <;> rcases hs3 with rfl | rfl <;> simp -implicitDefEqProofs [lcStep, er, hd, hl, cl, Row.pair, dIx_tup, ixN]
    rw [e0] at this ⊢
    exact this
  have G : GI (namesOf T role) (outOf T (cloR T cols)) ((restOf T role).map fun r => ([r.nm], outOf T (cloR T cols) r.nm)) := by
    have all : ∀ {p : Gr → Prop}, (∀ r ∈ restOf T role, p ([r.nm], outOf T (cloR T cols) r.nm)) → ∀ g ∈ (restOf T role).map (fun r => (([r.nm], outOf T (cloR T cols) r.nm) : Gr)), p g := fun h g hg => by
      obtain ⟨r, hr, rfl⟩ := List.mem_map.mp hg
      exact h r hr
    refine ⟨?_, all fun r hr => by simp, all fun r hr c => by simp, all fun r hr Z hZ a ha za b hb => ?_, ?_⟩
    · have : ((restOf T role).map fun r => (([r.nm], outOf T (cloR T cols) r.nm) : Gr)).flatMap (fun g => g.1) = namesOf T role := by
        unfold namesOf
        rw [List.flatMap_map]
        induction restOf T role with
        | nil => rfl
        | cons r rs ih => rw [List.flatMap_cons, ih]; rfl
      rw [this]
    · have ha : a = r.nm := by simpa using ha
      have hb : b = r.nm := by simpa using hb
      rw [hb, ← ha]
      exact za
    · have hlen : ∀ rs : List Row, (∀ r ∈ rs, r ∈ T) → ((rs.map fun r => (([r.nm], outOf T (cloR T cols) r.nm) : Gr)).flatMap fun g => g.2).length ≤ 4 * rs.length := by
        intro rs
        induction rs with
        | nil => intro _; simp
        | cons r rs ih =>
          intro hr
          have h1 := ih fun q hq => hr q (List.mem_cons_of_mem _ hq)
          have hrT := hr r (List.mem_cons_self ..)
          have h2 : (outOf T (cloR T cols) r.nm).length ≤ 4 := by
            rw [outOf_row nT hrT]
            have := List.length_filter_le (fun c => decide (c ∉ cloR T cols)) r.cols
            have := L.c4 r (hT r hrT)
            omega
          rw [List.map_cons, List.flatMap_cons, List.length_append, List.length_cons]
          have h2 : ((([r.nm], outOf T (cloR T cols) r.nm) : Gr).2).length ≤ 4 := h2
          omega
      exact Nat.le_trans (hlen (restOf T role) hrest) (by omega)
  obtain ⟨a3, ha3⟩ : ∃ a3 : Slot, (h = .tmp (.lst (ss (cloR T cols))) ∧ a3 = .ow (.lst (ss (cloR T cols)))) ∨ (h = .val (.lst (ss (cloR T cols))) ∧ a3 = .sh (.lst (ss (cloR T cols)))) := by
    rcases hh with rfl | rfl
    · exact ⟨_, .inl ⟨rfl, rfl⟩⟩
    · exact ⟨_, .inr ⟨rfl, rfl⟩⟩
  clear hh
  obtain ⟨hs, s4, s5, s6, s7, s8, H, ap, hl, h4, e⟩ := gr_while (gs := (restOf T role).map fun r => (([r.nm], outOf T (cloR T cols) r.nm) : Gr)) G (by rw [List.length_map]; omega) (by unfold namesOf; rw [List.length_map]; omega) (a0 := .sh (rowsD rows)) (a1 := .sh role) (a2 := .sh (.lst (ss (T.map Row.nm)))) (a3 := a3)
  obtain ⟨p1, p2, p3⟩ := H.parts (asc_nodup aN) ap _ rfl
  obtain ⟨t1, t2, t3⟩ := sorted_tups p1 p2
  have P := p3 _ t2 t3
  refine ⟨sortT (hs.map fun g => sortS g.1), ?_, P⟩
  have h5 : ∀ a0 a1 a2 a3 a5 a6 a7 a8 : Slot, lcLoop (gtTup 2 (gtCons (gtName 13) (gtCons (gtName 14) (gtNil)))) (bvYes) (evOps dTuple (avCons (evOps dSorted (avCons (evVar 13) (avNil))) (avNil))) [13, 14] (hs.map gD) [a0, a1, a2, a3, .sh (gsD hs), a5, a6, a7, a8, .no, .no, .no, .no, .no, .no] = .ok (tsD (hs.map fun g => sortS g.1), [a0, a1, a2, a3, .sh (gsD hs), a5, a6, a7, a8, .no, .no, .no, .no, .no, .no]) := fun a0 a1 a2 a3 a5 a6 a7 a8 => by
    have := lc_map (g := gtTup 2 (gtCons (gtName 13) (gtCons (gtName 14) (gtNil)))) (tt := bvYes) (f := evOps dTuple (avCons (evOps dSorted (avCons (evVar 13) (avNil))) (avNil))) (vs := [13, 14]) (em := gD) (ρ0 := [a0, a1, a2, a3, .sh (gsD hs), a5, a6, a7, a8, .no, .no, .no, .no, .no, .no]) (fun g => .tup (ss (sortS g.1))) hs fun g _ => by
      unfold gD
      generalize gsD hs = GD at *
      simp -implicitDefEqProofs [lcStep]
    rw [this]
    unfold tsD
    rw [List.map_map]
    rfl
  have hl2 : (hs.map gD).length ≤ 1000000 := by rw [List.length_map]; omega
  have geq : gsD hs = .lst (hs.map gD) := rfl
  have qn : (tsD (sortT (hs.map fun g => sortS g.1))).length ≤ 1000000 := by
    unfold tsD
    rw [List.length_map, t2.length_eq, List.length_map]
    omega
  have sl : (tsD (hs.map fun g => sortS g.1)).length ≤ 1000000 := by
    unfold tsD
    rw [List.length_map, List.length_map]
    omega
  have tl2 : (T.map Row.nm).length ≤ 1000000 := by rw [List.length_map]; omega
  have ge : (restOf T role).map (fun r => gD ([r.nm], outOf T (cloR T cols) r.nm)) = ((restOf T role).map fun r => (([r.nm], outOf T (cloR T cols) r.nm) : Gr)).map gD := by rw [List.map_map]; rfl
  rw [ge] at h3
  have ng : dNeg (.int 1) = some (.val (.int (-1))) := rfl
  have h3a := h3 (.ow (.lst (ss (cloR T cols)))) (.inl rfl)
  have h3b := h3 (.sh (.lst (ss (cloR T cols)))) (.inr rfl)
  clear h3 ge
  have geq2 : gsD ((restOf T role).map fun r => (([r.nm], outOf T (cloR T cols) r.nm) : Gr)) = .lst (((restOf T role).map fun r => (([r.nm], outOf T (cloR T cols) r.nm) : Gr)).map gD) := rfl
  rw [geq2] at e
  rw [geq] at h4 h5
  generalize ((restOf T role).map fun r => (([r.nm], outOf T (cloR T cols) r.nm) : Gr)).map gD = G0 at *
  generalize tsD (sortT (hs.map fun g => sortS g.1)) = TS at *
  generalize tsD (hs.map fun g => sortS g.1) = TU at *
  generalize hs.map gD = HD at *
  generalize ss (cloR T cols) = CR at *
  generalize T.map Row.nm = TN at *
  rcases ha3 with ⟨rfl, rfl⟩ | ⟨rfl, rfl⟩
  · rcases h4 with rfl | rfl <;> simp -implicitDefEqProofs [fn__law_groups, fnOf_app, b__law_groups, h1, h2, h3a, ng, e, h5, hl2, t1, qn, sl, tl2]
  · rcases h4 with rfl | rfl <;> simp -implicitDefEqProofs [fn__law_groups, fnOf_app, b__law_groups, h1, h2, h3b, ng, e, h5, hl2, t1, qn, sl, tl2]
end Lw
set_option Elab.async false
set_option linter.all false
set_option maxRecDepth 100000
set_option maxHeartbeats 4000000
/-! what the laws about pieces share -/
namespace Lw
open PySem L2 Ft
@[simp] theorem cvK_app (g : CV) (gk : GV) (gD : List HA → List D → List HA) (ρ : Rho) : cvK g gk gD ρ = (g ρ).bind fun p => (gk p.2).bind fun q => .ok (gD p.1 q.1, q.2) := rfl
theorem rows_of {rows : List Row} (aR : Asc (rows.map Row.nm)) {ys : List Str} (hn : ys.Nodup) (hs : ∀ y ∈ ys, y ∈ rows.map Row.nm) : ∃ T : List Row, (∀ r, r ∈ T ↔ r ∈ rows ∧ r.nm ∈ ys) ∧ sortS ys = T.map Row.nm := by
  refine ⟨rows.filter fun r => decide (r.nm ∈ ys), fun r => by rw [List.mem_filter, decide_eq_true_eq], ?_⟩
  refine asc_same (sortS_asc hn) (asc_sub (List.filter_sublist.map Row.nm) aR) fun x => ?_
  rw [mem_sortS, List.mem_map]
  constructor
  · intro hx
    obtain ⟨r, hr, rfl⟩ := List.mem_map.mp (hs x hx)
    exact ⟨r, List.mem_filter.mpr ⟨hr, decide_eq_true hx⟩, rfl⟩
  · rintro ⟨r, hr, rfl⟩
    exact of_decide_eq_true (List.mem_filter.mp hr).2
theorem sorted_rows {rows : List Row} (L : Lines rows) : dSorted [rowsD rows] = some (.tmp (.lst (ss (rows.map Row.nm)))) := by
  have h := kvS_sorted (rows.map fun r => (r.nm, r.pair))
  unfold kvS at h
  rw [List.map_map] at h
  refine h.trans ?_
  rw [List.map_map]
  exact congrArg (fun z => some (Hd.tmp (.lst (ss z)))) (sortS_of_asc L.asc)
theorem law_given {rows : List Row} (M : Made rows) {role : D} {cols : List Str} (R : RoleOk rows role cols) {d : D} (hd : Dice d) :
    ∃ T d', fn__law_given [d, rowsD rows, role] = .ok (.tmp (.lst (ss (T.map Row.nm))), [d']) ∧ Dice d' ∧ (∀ r ∈ T, r ∈ rows) ∧ Asc (T.map Row.nm) ∧ T ≠ [] ∧ ∀ y, role = .str y → y ∈ T.map Row.nm := by
  have L := M.L
  have l6 := L.six
  have l1 := L.one
  have nn := asc_nodup L.asc
  have e0 := sorted_rows L
  obtain ⟨ys, d1, e1, hd1, hs⟩ := some_s hd (xs := rows.map Row.nm) (by rw [List.length_map]; omega) (lo := 1) (hi := 6) (by omega)
  have e1 : fn__law_some [d, .lst (ss (rows.map Row.nm)), .int 1, .int 6] = _ := e1
  have yl := hs.len
  rw [List.length_map] at yl
  have main : ∀ zs : List Str, (∀ z ∈ zs, z ∈ rows.map Row.nm) → ∃ T : List Row, (∀ r ∈ T, r ∈ rows) ∧ sortS (dedup (ys ++ zs)) = T.map Row.nm ∧ Asc (T.map Row.nm) ∧ T ≠ [] ∧ ∀ y ∈ zs, y ∈ T.map Row.nm := by
    intro zs hz
    obtain ⟨T, hT, hTn⟩ := rows_of L.asc (dedup_nodup (ys ++ zs)) (fun y hy => by
      rw [mem_dedup, List.mem_append] at hy
      exact hy.elim (fun h => hs.mem h) (hz y))
    refine ⟨T, fun r hr => ((hT r).mp hr).1, hTn, by rw [← hTn]; exact sortS_asc (dedup_nodup _), fun z => ?_, fun y hy => ?_⟩
    · have hy : ys ≠ [] := fun q => by
        rw [q] at yl
        have h1 : min 1 rows.length = 1 := by omega
        rw [h1] at yl
        simp at yl
      obtain ⟨y, ys', e⟩ := List.exists_cons_of_ne_nil hy
      have : y ∈ T.map Row.nm := by
        rw [← hTn, mem_sortS, mem_dedup, e]
        simp
      rw [z] at this
      cases this
    · rw [← hTn, mem_sortS, mem_dedup]
      exact List.mem_append.mpr (.inr hy)
  have yl2 : ys.length + 1 ≤ 4000 := by omega
  cases R with
  | tab hr hc =>
    rename_i r
    obtain ⟨T, h1, h2, h3, h4, h5⟩ := main [r.nm] fun z hz => by
      rw [List.mem_singleton.mp hz]
      exact List.mem_map.mpr ⟨r, hr, rfl⟩
    refine ⟨T, d1, ?_, hd1, h1, h3, h4, fun y e => ?_⟩
    · have ad : dAdd (.lst (ss ys)) (.lst [.str r.nm]) = some (.tmp (.lst (ss (ys ++ [r.nm])))) := by
        rw [← ss_app]
        exact if_pos (by simp only [ss_len, List.length_singleton]; omega)
      generalize T.map Row.nm = TN at *
      generalize rows.map Row.nm = RN at *
      simp -implicitDefEqProofs [fn__law_given, fnOf_app, b__law_given, e0, e1, ad, yl2, h2]
    · cases e
      exact h5 _ (List.mem_singleton.mpr rfl)
  | door a h =>
    obtain ⟨T, h1, h2, h3, h4, h5⟩ := main [] fun z hz => nomatch hz
    refine ⟨T, d1, ?_, hd1, h1, h3, h4, fun y e => nomatch e⟩
    have ad : dAdd (.lst (ss ys)) (.lst []) = some (.tmp (.lst (ss (ys ++ [])))) := by
      rw [← ss_app]
      exact if_pos (by simp only [ss_len, List.length_nil]; omega)
    have yl3 : ys.length ≤ 4000 := by omega
    rw [List.append_nil] at h2 ad
    generalize T.map Row.nm = TN at *
    generalize rows.map Row.nm = RN at *
    simp -implicitDefEqProofs [fn__law_given, fnOf_app, b__law_given, e0, e1, ad, yl3, h2]
theorem dPow_int (i : Int) (n : Nat) (h : (Builtin.Int.intBits i : Int) * (n : Int) ≤ 134217728) : dPow (.int i) (.int (n : Int)) = some (.val (.int (i ^ n))) := by
  have : (decide (0 ≤ (n : Int)) && decide ((Builtin.Int.intBits i : Int) * (n : Int) ≤ 134217728)) = true := by
    rw [Bool.and_eq_true]
    exact ⟨decide_eq_true (by omega), decide_eq_true h⟩
  exact if_pos this
theorem pows : ∃ A B C : Int, dPow (.int 10) (.int 59) = some (.val (.int A)) ∧ dPow (.int A) (.int 11) = some (.val (.int B)) ∧ dPow (.int 10) (.int 18) = some (.val (.int C)) ∧ 0 < B :=
  ⟨_, _, _, dPow_int 10 59 (by decide +kernel), dPow_int (10 ^ 59) 11 (by decide +kernel), dPow_int 10 18 (by decide +kernel), Int.pow_pos (Int.pow_pos (by omega))⟩
@[simp] theorem dLen_scr (ns : List Int) : dLen [.scr ns] = some (.val (.int ns.length)) := rfl
theorem ints_ix {ns : List Int} {i : Nat} (h : i < ns.length) : dIx (.scr ns) (.int (i : Int)) = some (.val (.int ns[i])) := by
  have : dIx (.lst (ns.map .int)) (.int (i : Int)) = some (.val (.int ns[i])) := dIx_at _ _ _ (by rw [List.getElem?_map, List.getElem?_eq_getElem h]; rfl)
  exact this
theorem law_dice (ns : List Int) (i : Nat) : ∃ d', fn__law_dice [.scr ns, .int (i : Int)] = .ok (.tmp d', []) ∧ Dice d' := by
  obtain ⟨A, B, C, h1, h2, h3, hB⟩ := pows
  have i1 : in64 3202034522624059733 = true := rfl
  have i2 : in64 67 = true := rfl
  have i3 : in64 17 = true := rfl
  have i4 : in64 31 = true := rfl
  generalize hcell : (if h : i < ns.length then ns[i] else 31 * (i : Int) + 14) = cell
  refine ⟨.lst [.int (if 0 < (if cell < 0 then -cell else cell) % B - C then (if cell < 0 then -cell else cell) % B - C else 0), .int (((if cell < 0 then -cell else cell) % B * 3202034522624059733 + 67 * (i : Int) + 17 * (if cell < 0 then 1 else 0) + 3) % 2305843009213693921), .int 0], ?_, _, _, _, rfl⟩
  by_cases h : i < ns.length
  · rw [dif_pos h] at hcell
    have hix := ints_ix h
    rw [hcell] at hix
    by_cases hc : cell < 0 <;> simp -implicitDefEqProofs [fn__law_dice, fnOf_app, b__law_dice, h1, h2, h3, hB, i1, i2, i3, i4, h, hix, hc, dMax, dAbs, dInt]
  · rw [dif_neg h] at hcell
    by_cases hc : cell < 0 <;> simp -implicitDefEqProofs [fn__law_dice, fnOf_app, b__law_dice, h1, h2, h3, hB, i1, i2, i3, i4, h, hcell, hc, dMax, dAbs, dInt]
instance (xs : List Str) : Decidable (Asc xs) := by unfold Asc; infer_instance
theorem sort_to {xs ys : List Str} (n : xs.Nodup) (a : Asc ys) (h1 : ∀ x ∈ xs, x ∈ ys) (h2 : ∀ y ∈ ys, y ∈ xs) : sortS xs = ys :=
  asc_same (sortS_asc n) a fun x => by rw [mem_sortS]; exact ⟨h1 x, h2 x⟩
theorem isName_of {x : Str} (h : isT (fn_is_name [.str x]) = true) : IsName x := isT_ok h
def lettersT : List Str := ["a", "b", "c", "d", "e", "f", "g", "h", "i", "j", "k", "l", "m", "n", "o", "p", "q", "r", "s", "t", "u", "v", "w", "x", "y", "z", "order", "place", "stock", "part", "shelf", "who"]
theorem letters : ∀ x ∈ lettersT, IsName x := fun x hx => isName_of (by
  have : (lettersT.all fun x => isT (fn_is_name [.str x])) = true := by decide +kernel
  exact List.all_eq_true.mp this x hx)
def keyB (r : Row) : Bool := match r.kin with
  | .key ks => decide ks.Nodup && ks.all fun k => decide (k ∈ r.cols)
  | _ => true
def linesB (rows : List Row) : Bool := decide (Asc (rows.map Row.nm)) && (rows.all fun r => decide (r.nm ∈ lettersT) && decide r.cols.Nodup && (r.cols.all fun c => decide (c ∈ lettersT)) && decide (r.cols.length ≤ 4) && keyB r) && decide (1 ≤ rows.length) && decide (rows.length ≤ 6) && decide ((dedup (rows.flatMap Row.cols)).length ≤ 6)
theorem linesB_ok {rows : List Row} (h : linesB rows = true) : Lines rows := by
  unfold linesB at h
  simp only [Bool.and_eq_true, decide_eq_true_eq, List.all_eq_true] at h
  obtain ⟨⟨⟨⟨h1, h2⟩, h3⟩, h4⟩, h5⟩ := h
  refine ⟨h1, fun r hr => letters _ (h2 r hr).1.1.1.1, fun r hr => (h2 r hr).1.1.1.2, fun r hr c hc => letters _ ((h2 r hr).1.1.2 c hc), fun r hr => (h2 r hr).1.2, fun r hr ks e => ?_, h3, h4, h5⟩
  have := (h2 r hr).2
  unfold keyB at this
  rw [e] at this
  simp only [Bool.and_eq_true, decide_eq_true_eq, List.all_eq_true] at this
  exact this
instance : DecidableEq Kin := fun a b => match a, b with
  | .chg, .chg => .isTrue rfl
  | .fix, .fix => .isTrue rfl
  | .key x, .key y => if h : x = y then .isTrue (by rw [h]) else .isFalse fun e => h (Kin.key.inj e)
  | .chg, .fix => .isFalse (fun e => nomatch e)
  | .chg, .key _ => .isFalse (fun e => nomatch e)
  | .fix, .chg => .isFalse (fun e => nomatch e)
  | .fix, .key _ => .isFalse (fun e => nomatch e)
  | .key _, .chg => .isFalse (fun e => nomatch e)
  | .key _, .fix => .isFalse (fun e => nomatch e)
instance : DecidableEq Row := fun a b => if h : a.nm = b.nm ∧ a.cols = b.cols ∧ a.kin = b.kin then .isTrue (by cases a; cases b; obtain ⟨h1, h2, h3⟩ := h; cases h1; cases h2; cases h3; rfl) else .isFalse fun e => h (by rw [e]; exact ⟨rfl, rfl, rfl⟩)
def normB (r : Row) : Bool := decide (Asc r.cols) && match r.kin with
  | .key ks => decide (Asc ks)
  | _ => true
theorem norm_of {rows : List Row} (h : rows.all normB = true) : rows.map Row.norm = rows := by
  refine (List.map_congr_left fun r hr => ?_).trans (List.map_id _)
  have q := List.all_eq_true.mp h r hr
  unfold normB at q
  rw [Bool.and_eq_true, decide_eq_true_eq] at q
  obtain ⟨nm, cols, kin⟩ := r
  unfold Row.norm Kin.norm
  rw [sortS_of_asc q.1]
  cases kin with
  | chg => rfl
  | fix => rfl
  | key ks =>
    have := of_decide_eq_true q.2
    simp only [sortS_of_asc this]
    rfl

/-! parts, worked out -/
def grow (N : List Str) (out : Str → List Str) : Nat → List Str → List Str
  | 0, S => S
  | n + 1, S => grow N out n (S ++ N.filter fun b => S.any fun a => decide (a ∈ N) && adjB out a b)
theorem grow_in {N : List Str} {out : Str → List Str} {Z : Str → Prop} (hZ : shut N out Z) : ∀ (n : Nat) (S : List Str), (∀ a ∈ S, Z a) → ∀ b ∈ grow N out n S, Z b
  | 0, S, h, b, hb => h b hb
  | n + 1, S, h, b, hb => grow_in hZ n _ (fun c hc => by
    rcases List.mem_append.mp hc with z | z
    · exact h c z
    · obtain ⟨h1, h2⟩ := List.mem_filter.mp z
      obtain ⟨a, ha, q⟩ := List.any_eq_true.mp h2
      rw [Bool.and_eq_true, decide_eq_true_eq, adjB_iff] at q
      exact hZ a q.1 c h1 (h a ha) q.2) b hb
def partB (N : List Str) (out : Str → List Str) (p : List Str) : Bool := (p.all fun a => decide (a ∈ N)) && decide (p ≠ []) && (p.all fun a => N.all fun b => !adjB out a b || decide (b ∈ p)) && (p.all fun a => p.all fun b => decide (b ∈ grow N out 6 [a])) && decide (Asc p)
theorem partB_ok {N : List Str} {out : Str → List Str} {p : List Str} (h : partB N out p = true) : Part N out p ∧ Asc p := by
  unfold partB at h
  simp only [Bool.and_eq_true, decide_eq_true_eq, List.all_eq_true, Bool.or_eq_true, Bool.not_eq_true'] at h
  obtain ⟨⟨⟨⟨h1, h2⟩, h3⟩, h4⟩, h5⟩ := h
  refine ⟨⟨h1, h2, fun a _ b hb ha hadj => ?_, fun Z hZ a ha za b hb => ?_⟩, h5⟩
  · rcases h3 a ha b hb with z | z
    · rw [adjB_iff.mpr hadj] at z; cases z
    · exact z
  · exact grow_in hZ 6 [a] (fun x hx => by rw [List.mem_singleton.mp hx]; exact za) b (h4 a ha b hb)
def partsB (N : List Str) (out : Str → List Str) (ps : List (List Str)) : Bool := (ps.all fun p => partB N out p) && (N.all fun a => ps.any fun p => decide (a ∈ p)) && decide (Asc (ps.map hdS))
theorem partsB_ok {N : List Str} {out : Str → List Str} {ps : List (List Str)} (h : partsB N out ps = true) : Parts N out ps := by
  unfold partsB at h
  simp only [Bool.and_eq_true, decide_eq_true_eq, List.all_eq_true, List.any_eq_true] at h
  obtain ⟨⟨h1, h2⟩, h3⟩ := h
  exact ⟨fun p hp => partB_ok (h1 p hp), h2, h3⟩
theorem mem_every2 {rows : List Row} {cols : List Str} (h : (cols.all fun c => decide (c ∈ rows.flatMap Row.cols)) = true) : ∀ c ∈ cols, c ∈ everyOf rows := fun c hc => mem_every.mpr (List.mem_flatMap.mp (of_decide_eq_true (List.all_eq_true.mp h c hc)))
theorem spots (l : Nat) : ∃ (m : Int) (n : Nat), dMin [.int 6, .int (l : Int)] = some (.val (.int m)) ∧ dMax [.int 1, .int m] = some (.val (.int (n : Int))) ∧ n ≤ 6 := by
  have mn : ∀ i j z : Int, (if j < i then j else i) = z → dMin [.int i, .int j] = some (.val (.int z)) := fun i j z e => by rw [← e]; rfl
  have mx : ∀ i j z : Int, (if i < j then j else i) = z → dMax [.int i, .int j] = some (.val (.int z)) := fun i j z e => by rw [← e]; rfl
  by_cases h6 : l < 6
  · by_cases h1 : 1 < l
    · exact ⟨l, l, mn _ _ _ (if_pos (by omega)), mx _ _ _ (if_pos (by omega)), by omega⟩
    · exact ⟨l, 1, mn _ _ _ (if_pos (by omega)), mx _ _ _ (if_neg (by omega)), by omega⟩
  · exact ⟨6, 6, mn _ _ _ (if_neg (by omega)), mx _ _ _ (if_pos (by omega)), by omega⟩
end Lw
set_option Elab.async false
set_option linter.all false
set_option maxRecDepth 100000
set_option maxHeartbeats 4000000
/-! the view of a piece -/
namespace Lw
open PySem L2 Ft
def colsOf (rows : List Row) (n : Str) : List Str := ((rows.find? fun r => decide (r.nm = n)).map Row.cols).getD []
theorem colsOf_row {rows : List Row} (n : (rows.map Row.nm).Nodup) {r : Row} (h : r ∈ rows) : colsOf rows r.nm = r.cols := by
  unfold colsOf
  rw [find_row n h]
  rfl
def viewB (rows : List Row) (K p : List Str) : List Str := K.filter fun c => p.any fun n => decide (c ∈ colsOf rows n)
theorem mem_viewB {rows : List Row} {K p : List Str} {c : Str} : c ∈ viewB rows K p ↔ c ∈ K ∧ ∃ n ∈ p, c ∈ colsOf rows n := by
  unfold viewB
  rw [List.mem_filter, List.any_eq_true]
  simp only [decide_eq_true_eq]
theorem columns_inside_ok {rows : List Row} (M : Made rows) {K p : List Str} (hp : ∀ n ∈ p, n ∈ rows.map Row.nm) (lK : K.length ≤ 1000) (lp : p.length ≤ 1000) : fn_columns_inside [scD rows, .tup (ss K), .tup (ss p)] = .ok (.val (.tup (ss (viewB rows K p))), []) := by
  have h1 : lcLoop (gtName 3) (tst (evOps dAny (avCons (evLc (ivOf (evVar 2)) (gtName 4) (bvYes) (evOp2 dIn (evVar 3) (evOp2 dIx (evFld [0] 1 (evVar 0)) (evVar 4))) [4]) (avNil)))) (evVar 3) [3] (ss K) [.sh (scD rows), .sh (.tup (ss K)), .sh (.tup (ss p)), .no, .no] = .ok (ss (viewB rows K p), [.sh (scD rows), .sh (.tup (ss K)), .sh (.tup (ss p)), .no, .no]) :=
    lc_filter (em := D.str) (fun c => p.any fun n => decide (c ∈ colsOf rows n)) D.str K fun x hx => by
      have h2 : lcLoop (gtName 4) bvYes (evOp2 dIn (evVar 3) (evOp2 dIx (evFld [0] 1 (evVar 0)) (evVar 4))) [4] (ss p) [.sh (scD rows), .sh (.tup (ss K)), .sh (.tup (ss p)), .sh (.str x), .no] = .ok (p.map (fun n => D.bl (decide (x ∈ colsOf rows n))), [.sh (scD rows), .sh (.tup (ss K)), .sh (.tup (ss p)), .sh (.str x), .no]) :=
        lc_map (em := D.str) _ p fun n hn => by
          obtain ⟨r, hr, rfl⟩ := List.mem_map.mp (hp n hn)
          have h := M.ix_cols hr
          rw [colsOf_row (asc_nodup M.L.asc) hr]
          simp -implicitDefEqProofs [lcStep, scf1, h]
      have h3 := dAny_map (fun n => decide (x ∈ colsOf rows n)) p
      have lp2 : p.length ≤ 1000000 := by omega
      generalize (p.map fun n => D.bl (decide (x ∈ colsOf rows n))) = BL at *
      generalize (p.any fun n => decide (x ∈ colsOf rows n)) = b at *
      generalize scD rows = SC at *
      cases b <;> simp -implicitDefEqProofs [lcStep, h2, h3, lp2]
  have lK2 : K.length ≤ 1000000 := by omega
  have lV : (viewB rows K p).length ≤ 1000000 := by
    have := List.length_filter_le (fun c => p.any fun n => decide (c ∈ colsOf rows n)) K
    unfold viewB
    omega
  generalize viewB rows K p = VB at *
  simp -implicitDefEqProofs [fn_columns_inside, fnOf_app, b_columns_inside, h1, lK2, lV]
/-- the closed piece Z of a piece -/
structure Clp (rows T : List Row) (B p Z : List Str) : Prop where
  asc : Asc Z
  mem : ∀ x, x ∈ Z ↔ x ∈ p ∨ ∃ r ∈ T, r.nm = x ∧ okr (cloR T B) r = true
theorem Clp.uniq {rows T : List Row} {B p Z Z' : List Str} (a : Clp rows T B p Z) (b : Clp rows T B p Z') : Z = Z' :=
  asc_same a.asc b.asc fun x => by rw [a.mem, b.mem]
theorem view_of_piece_ok {rows T : List Row} (M : Made rows) (hT : ∀ r ∈ T, r ∈ rows) (aT : Asc (T.map Row.nm)) {K p : List Str} (aK : Asc K) (lK : K.length ≤ 100) (ap : Asc p) (hp : ∀ n ∈ p, n ∈ rows.map Row.nm) (lp : p.length ≤ 100) :
    ∃ Z, fn_view_of_piece [scD rows, .tup (ss K), .tup (ss (T.map Row.nm)), .tup (ss p)] = .ok (.val (.tup [.tup (ss Z), .tup (ss (viewB rows K p))]), []) ∧ Clp rows T (viewB rows K p) p Z := by
  have h1 := columns_inside_ok M hp (K := K) (by omega) (by omega)
  have aV : Asc (viewB rows K p) := asc_sub List.filter_sublist aK
  have lV : (viewB rows K p).length ≤ 100 := by
    have := List.length_filter_le (fun c => p.any fun n => decide (c ∈ colsOf rows n)) K
    unfold viewB
    omega
  obtain ⟨known, used, h2, S⟩ := steps M hT aT (asc_nodup aV) lV
  have ul : (sortS (used.map Row.nm)).length ≤ 100 := by
    rw [sortS_length]
    have := nodup_len S.un (ys := rows.map Row.nm) fun x hx => by
      obtain ⟨r, hr, rfl⟩ := List.mem_map.mp hx
      exact List.mem_map.mpr ⟨r, hT r ((S.usd r).mp hr).1, rfl⟩
    have := M.L.six
    simp at *
    omega
  have h3 : fn_reached_in [scD rows, .tup (ss (viewB rows K p)), .tup (ss (T.map Row.nm))] = .ok (.val (.tup (ss (sortS (used.map Row.nm)))), []) := by
    generalize viewB rows K p = VB at *
    generalize T.map Row.nm = TN at *
    simp -implicitDefEqProofs [fn_reached_in, fnOf_app, b_reached_in, h2]
  have h4 : ∀ s4 : Slot, lcLoop (gtName 6) (tst (evOp2 dNotIn (evVar 6) (evVar 3))) (evVar 6) [6] (ss (sortS (used.map Row.nm))) [.sh (scD rows), .sh (.tup (ss K)), .sh (.tup (ss (T.map Row.nm))), .sh (.tup (ss p)), s4, .no, .no] = .ok (ss ((sortS (used.map Row.nm)).filter fun c => decide (c ∉ p)), [.sh (scD rows), .sh (.tup (ss K)), .sh (.tup (ss (T.map Row.nm))), .sh (.tup (ss p)), s4, .no, .no]) := fun s4 =>
    lc_filter (em := D.str) (fun c => decide (c ∉ p)) D.str _ fun x _ => by
      by_cases h : x ∈ p <;> simp -implicitDefEqProofs [lcStep, h]
  refine ⟨sortS (p ++ (sortS (used.map Row.nm)).filter fun c => decide (c ∉ p)), ?_, ?_, fun x => ?_⟩
  · have fl := List.length_filter_le (fun c => decide (c ∉ p)) (sortS (used.map Row.nm))
    have ln : ((sortS (used.map Row.nm)).filter fun c => decide (c ∉ p)).length ≤ 100 := by omega
    have ul2 : (sortS (used.map Row.nm)).length ≤ 1000000 := by omega
    have lp2 : p.length ≤ 1000000 := by omega
    have ln2 : p.length + ((sortS (used.map Row.nm)).filter fun c => decide (c ∉ p)).length ≤ 1000000 := by omega
    generalize (sortS (used.map Row.nm)).filter (fun c => decide (c ∉ p)) = FL at *
    generalize sortS (used.map Row.nm) = US at *
    generalize viewB rows K p = VB at *
    generalize T.map Row.nm = TN at *
    simp -implicitDefEqProofs [fn_view_of_piece, fnOf_app, b_view_of_piece, h1, h3, h4, ul2, lp2, ln2]
  · refine sortS_asc ?_
    rw [List.nodup_append]
    refine ⟨asc_nodup ap, (asc_nodup (sortS_asc S.un)).filter _, fun a ha b hb e => ?_⟩
    subst e
    exact of_decide_eq_true (List.mem_filter.mp hb).2 ha
  · rw [mem_sortS, List.mem_append, List.mem_filter, mem_sortS, decide_eq_true_eq, List.mem_map]
    have hk : ∀ r, okr known r = okr (cloR T (viewB rows K p)) r := okr_same fun c => by
      rw [← clo_mem (clo_of S), mem_sortS]
    constructor
    · rintro (h | ⟨⟨r, hr, e⟩, h⟩)
      · exact .inl h
      · obtain ⟨h1, h2⟩ := (S.usd r).mp hr
        exact .inr ⟨r, h1, e, by rw [← hk]; exact h2⟩
    · rintro (h | ⟨r, h1, e, h2⟩)
      · exact .inl h
      · by_cases hx : x ∈ p
        · exact .inl hx
        · exact .inr ⟨⟨r, (S.usd r).mpr ⟨h1, by rw [hk]; exact h2⟩, e⟩, hx⟩
end Lw
set_option Elab.async false
set_option linter.all false
set_option maxRecDepth 100000
set_option maxHeartbeats 4000000
/-! the law's own view of a piece: keyed tables, one by one, round by round -/
namespace Lw
open PySem L2 Ft
abbrev HZ := List Str × List Str
def fireP (q : HZ) (r : Row) : HZ := if okr q.1 r = true then (q.1 ++ r.cols, q.2 ++ [r.nm]) else q
def rndP (T : List Row) (q : HZ) : HZ := T.foldl fireP q
def roundsP (T : List Row) : Nat → HZ → HZ
  | 0, q => q
  | n + 1, q => rndP T (roundsP T n q)
theorem fireP_mem {q : HZ} {S : List Str} (h : ∀ x, x ∈ q.1 ↔ x ∈ S) (r : Row) : ∀ x, x ∈ (fireP q r).1 ↔ x ∈ fire S r := fun x => by
  unfold fireP fire
  rw [okr_same h r]
  split
  · show x ∈ q.1 ++ r.cols ↔ _
    rw [List.mem_append, List.mem_append, List.mem_filter, decide_eq_true_eq, h]
    by_cases hx : x ∈ S <;> simp [hx]
  · exact h x
theorem rndP_mem : ∀ (T : List Row) {q : HZ} {S : List Str}, (∀ x, x ∈ q.1 ↔ x ∈ S) → ∀ x, x ∈ (rndP T q).1 ↔ x ∈ rnd T S
  | [], _, _, h => h
  | r :: T, _, _, h => rndP_mem T (fireP_mem h r)
theorem roundsP_mem (T : List Row) (B p : List Str) : ∀ n, ∀ x, x ∈ (roundsP T n (B, p)).1 ↔ x ∈ rounds T n B
  | 0 => fun _ => Iff.rfl
  | n + 1 => rndP_mem T (roundsP_mem T B p n)
theorem fireP_keep {q : HZ} {x : Str} (h : x ∈ q.2) (r : Row) : x ∈ (fireP q r).2 := by
  unfold fireP
  split
  · exact List.mem_append.mpr (.inl h)
  · exact h
theorem rndP_keep : ∀ (T : List Row) {q : HZ} {x : Str}, x ∈ q.2 → x ∈ (rndP T q).2
  | [], _, _, h => h
  | r :: T, _, _, h => rndP_keep T (fireP_keep h r)
theorem roundsP_keep (T : List Row) {q : HZ} {x : Str} (h : x ∈ q.2) : ∀ n, x ∈ (roundsP T n q).2
  | 0 => h
  | n + 1 => rndP_keep T (roundsP_keep T h n)
theorem fireP_sub (q : HZ) (r : Row) : ∀ x ∈ q.1, x ∈ (fireP q r).1 := fun x hx => by
  unfold fireP
  split
  · exact List.mem_append.mpr (.inl hx)
  · exact hx
theorem rndP_in : ∀ (T : List Row) {q : HZ} {r : Row}, r ∈ T → okr q.1 r = true → r.nm ∈ (rndP T q).2
  | [], _, _, h, _ => nomatch h
  | a :: T, q, r, h, o => by
    rcases List.mem_cons.mp h with rfl | h
    · refine rndP_keep T ?_
      unfold fireP
      rw [if_pos o]
      exact List.mem_append.mpr (.inr (List.mem_singleton.mpr rfl))
    · exact rndP_in T h (okr_mono (fireP_sub q a) o)
theorem rndP_out {A : List Row} {C : List Str} (hC : Closed A C) : ∀ (T : List Row) {q : HZ}, (∀ r ∈ T, r ∈ A) → (∀ x ∈ q.1, x ∈ C) → ∀ x ∈ (rndP T q).2, x ∈ q.2 ∨ ∃ r ∈ A, r.nm = x ∧ okr C r = true
  | [], _, _, _, x, hx => .inl hx
  | r :: T, q, hT, hs, x, hx => by
    have hr := hT r (List.mem_cons_self ..)
    have hs2 : ∀ x ∈ (fireP q r).1, x ∈ C := fun y hy => by
      unfold fireP at hy
      split at hy
      · rename_i o
        rcases List.mem_append.mp hy with z | z
        · exact hs y z
        · obtain ⟨ks, e, hk⟩ := okr_iff.mp o
          exact hC r hr ks e (fun k hk2 => hs k (hk k hk2)) y z
      · exact hs y hy
    rcases rndP_out hC T (fun a ha => hT a (List.mem_cons_of_mem _ ha)) hs2 x hx with z | z
    · unfold fireP at z
      split at z
      · rename_i o
        rcases List.mem_append.mp z with z | z
        · exact .inl z
        · exact .inr ⟨r, hr, (List.mem_singleton.mp z).symm, okr_mono hs o⟩
      · exact .inl z
    · exact .inr z
theorem roundsP_out {T : List Row} {B p : List Str} : ∀ n, ∀ x ∈ (roundsP T n (B, p)).2, x ∈ p ∨ ∃ r ∈ T, r.nm = x ∧ okr (cloR T B) r = true
  | 0, x, hx => .inl hx
  | n + 1, x, hx => by
    rcases rndP_out (cloR_closed T B) T (fun _ h => h) (fun y hy => rounds_least (cloR_closed T B) (cloR_sub T B) n y ((roundsP_mem T B p n y).mp hy)) x hx with z | z
    · exact roundsP_out n x z
    · exact .inr z
theorem all_ready {T : List Row} {B : List Str} {m : Nat} (hm : T.length = m + 1) {r : Row} (hr : r ∈ T) (o : okr (cloR T B) r = true) : okr (rounds T m B) r = true := by
  by_cases hc : Closed T (rounds T m B)
  · exact okr_mono (cloR_least hc (rounds_sub T B m)) o
  · rcases rounds_closed T B m with h | h
    · exact absurd h hc
    · have hex : ∃ r ∈ T, okr (rounds T m B) r = true ∧ ∃ c ∈ r.cols, c ∉ rounds T m B := by
        refine Classical.byContradiction fun z => hc fun r hr ks e hk c hc => Classical.byContradiction fun q => z ⟨r, hr, okr_iff.mpr ⟨ks, e, hk⟩, c, hc, q⟩
      obtain ⟨r0, h0, o0, c, hc0, hn⟩ := hex
      have e : cnt T (rounds T m B) = (T.filter fun r => okr (rounds T m B) r).filter fun r => r.cols.all fun c => decide (c ∈ rounds T m B) := by
        unfold cnt
        rw [List.filter_filter]
        exact List.filter_congr fun q _ => Bool.and_comm ..
      have lt : (cnt T (rounds T m B)).length < (T.filter fun r => okr (rounds T m B) r).length := by
        rw [e]
        refine List.length_filter_lt_length_iff_exists.mpr ⟨r0, List.mem_filter.mpr ⟨h0, o0⟩, ?_⟩
        rw [List.all_eq_true]
        exact fun z => hn (of_decide_eq_true (z c hc0))
      have le := List.length_filter_le (fun r => okr (rounds T m B) r) T
      exact (List.length_filter_eq_length_iff.mp (by omega : (T.filter fun r => okr (rounds T m B) r).length = T.length)) r hr
theorem roundsP_all {T : List Row} {B p : List Str} (x : Str) : x ∈ (roundsP T T.length (B, p)).2 ↔ x ∈ p ∨ ∃ r ∈ T, r.nm = x ∧ okr (cloR T B) r = true := by
  refine ⟨roundsP_out _ x, ?_⟩
  rintro (h | ⟨r, hr, e, o⟩)
  · exact roundsP_keep T h _
  · cases hl : T.length with
    | zero =>
      rw [List.length_eq_zero_iff.mp hl] at hr
      cases hr
    | succ m =>
      rw [← e]
      refine rndP_in T hr ?_
      rw [okr_same (roundsP_mem T B p m)]
      exact all_ready hl hr o
theorem lacking_ok {ks H : List Str} (lk : ks.length ≤ 1000) : fn__law_lacking [.tup (ss ks), .lst (ss H)] = .ok (.tmp (.lst (ss (ks.filter fun c => decide (c ∉ H)))), [.lst (ss H)]) := by
  have h1 : lcLoop (gtName 2) (tst (evOp2 dNotIn (evVar 2) (evVar 1))) (evVar 2) [2] (ss ks) [.sh (.tup (ss ks)), .ln (.lst (ss H)), .no] = .ok (ss (ks.filter fun c => decide (c ∉ H)), [.sh (.tup (ss ks)), .ln (.lst (ss H)), .no]) :=
    lc_filter (em := D.str) (fun c => decide (c ∉ H)) D.str ks fun x _ => by
      by_cases h : x ∈ H <;> simp -implicitDefEqProofs [lcStep, h]
  have lk2 : ks.length ≤ 1000000 := by omega
  simp -implicitDefEqProofs [fn__law_lacking, fnOf_app, b__law_lacking, h1, lk2]
abbrev pvBody : SV := (svSeq (svSet 12 (evOp2 dIx (evOp2 dIx (evVar 0) (evVar 6)) (evC (.int 1)))) (svIf (bvAnd (tst (evIsi (isB "tuple") (evVar 12))) (tst (evOp2 dEq (evCall [false,true] fn__law_lacking [] (cvFr (evVar 12) (cvLn 9 (cvNil)))) (evLst (gvNil))))) (svSeq (svExpr (evMth .lst 10 mAppend (gvCons (evVar 6) (gvNil)))) (svExpr (evMth .lst 9 mExtend (gvCons (evOps dList (avCons (evOp2 dIx (evOp2 dIx (evVar 0) (evVar 6)) (evC (.int 0))) (avNil))) (gvNil))))) (svNext)))
theorem pv_turn {rows : List Row} (nn : (rows.map Row.nm).Nodup) {r : Row} (hr : r ∈ rows) (c4 : r.cols.length ≤ 4) (kl : ∀ ks, r.keyOf = some ks → ks.length ≤ 1000) {q : HZ} (hl : q.1.length ≤ 900000) (zl : q.2.length ≤ 900000) {a1 a2 a3 a4 a5 s6 a7 a8 a11 s12 : Slot} (f6 : Slot.soft s6) (f12 : Slot.soft s12) :
    turn (gtName 6) pvBody (.str r.nm) [.sh (rowsD rows), a1, a2, a3, a4, a5, s6, a7, a8, .ow (.lst (ss q.1)), .ow (.lst (ss q.2)), a11, s12, .no] = .ok (.next, [.sh (rowsD rows), a1, a2, a3, a4, a5, .sh (.str r.nm), a7, a8, .ow (.lst (ss (fireP q r).1)), .ow (.lst (ss (fireP q r).2)), a11, .sh r.kin.d, .no]) := by
  have hd := dIx_row nn hr
  obtain ⟨H, Z⟩ := q
  have hl : H.length ≤ 900000 := hl
  have zl : Z.length ≤ 900000 := zl
  obtain ⟨nm, cols, kin⟩ := r
  cases kin with
  | chg =>
    have o : fireP (H, Z) ⟨nm, cols, .chg⟩ = (H, Z) := rfl
    rw [o]
    simp -implicitDefEqProofs [turn, storeAt_soft, f6, f12, hd, dIx_tup, ixN, Row.pair, Kin.d]
  | fix =>
    have o : fireP (H, Z) ⟨nm, cols, .fix⟩ = (H, Z) := rfl
    rw [o]
    simp -implicitDefEqProofs [turn, storeAt_soft, f6, f12, hd, dIx_tup, ixN, Row.pair, Kin.d]
  | key ks =>
    have h1 := lacking_ok (ks := ks) (H := H) (kl ks rfl)
    have c4 : cols.length ≤ 4 := c4
    by_cases o : okr H ⟨nm, cols, .key ks⟩ = true
    · have hk : (ks.filter fun c => decide (c ∉ H)) = [] := by
        obtain ⟨ks', e, z⟩ := okr_iff.mp o
        cases e
        exact filter_nil.mpr z
      have of : fireP (H, Z) ⟨nm, cols, .key ks⟩ = (H ++ cols, Z ++ [nm]) := if_pos o
      rw [of]
      rw [hk] at h1
      have m1 : mAppend (.lst (ss Z)) [.str nm] = some (.lst (ss (Z ++ [nm])), .non) := by
        unfold mAppend
        simp only [ss_len]
        rw [if_pos (by omega), ← ss_app]
        rfl
      have m2 : mExtend (.lst (ss H)) [.lst (ss cols)] = some (.lst (ss (H ++ cols)), .non) := by
        unfold mExtend
        simp only [ss_len, ss_app]
        rw [if_pos (by omega)]
      simp -implicitDefEqProofs [turn, storeAt_soft, f6, f12, hd, dIx_tup, ixN, Row.pair, Kin.d, h1, m1, m2]
    · have hk : (ks.filter fun c => decide (c ∉ H)) ≠ [] := fun z => o (okr_iff.mpr ⟨ks, rfl, filter_nil.mp z⟩)
      have of : fireP (H, Z) ⟨nm, cols, .key ks⟩ = (H, Z) := if_neg o
      rw [of]
      generalize (ks.filter fun c => decide (c ∉ H)) = FK at *
      simp -implicitDefEqProofs [turn, storeAt_soft, f6, f12, hd, dIx_tup, ixN, Row.pair, Kin.d, h1, hk]
theorem fireP_len (q : HZ) (r : Row) : (fireP q r).1.length ≤ q.1.length + r.cols.length ∧ (fireP q r).2.length ≤ q.2.length + 1 := by
  unfold fireP
  split
  · simp
  · omega
theorem pv_rnd {rows T : List Row} (L : Lines rows) (hT : ∀ r ∈ T, r ∈ rows) (tl : T.length ≤ 6) {q : HZ} (hl : q.1.length ≤ 800000) (zl : q.2.length ≤ 800000) {a1 a2 a3 a4 a5 s6 a7 a8 a11 s12 : Slot} (f6 : Slot.soft s6) (f12 : Slot.soft s12) :
    ∃ s6' s12', Slot.soft s6' ∧ Slot.soft s12' ∧ (rndP T q).1.length ≤ q.1.length + 24 ∧ (rndP T q).2.length ≤ q.2.length + 6 ∧ forLoop (gtName 6) pvBody (ss (T.map Row.nm)) [.sh (rowsD rows), a1, a2, a3, a4, a5, s6, a7, a8, .ow (.lst (ss q.1)), .ow (.lst (ss q.2)), a11, s12, .no] = .ok (.next, [.sh (rowsD rows), a1, a2, a3, a4, a5, s6', a7, a8, .ow (.lst (ss (rndP T q).1)), .ow (.lst (ss (rndP T q).2)), a11, s12', .no]) := by
  have nn := asc_nodup L.asc
  obtain ⟨ρ', e, s6', s12', g6, g12, gl, gz, rfl⟩ := for_inv (g := gtName 6) (body := pvBody) (em := D.str ∘ Row.nm) (fun dn ρ => ∃ s6 s12, Slot.soft s6 ∧ Slot.soft s12 ∧ (rndP dn q).1.length ≤ q.1.length + 4 * dn.length ∧ (rndP dn q).2.length ≤ q.2.length + dn.length ∧ ρ = [.sh (rowsD rows), a1, a2, a3, a4, a5, s6, a7, a8, .ow (.lst (ss (rndP dn q).1)), .ow (.lst (ss (rndP dn q).2)), a11, s12, .no])
    T [] [.sh (rowsD rows), a1, a2, a3, a4, a5, s6, a7, a8, .ow (.lst (ss q.1)), .ow (.lst (ss q.2)), a11, s12, .no] ⟨s6, s12, f6, f12, by simp [rndP], by simp [rndP], rfl⟩ (by
      rintro dn r rest ρ hq ⟨s6, s12, f6, f12, gl, gz, rfl⟩
      rw [List.nil_append] at hq
      have hr : r ∈ rows := hT r (by rw [hq]; simp)
      have h2 := congrArg List.length hq
      simp at h2
      have c4 := L.c4 r hr
      have ht := pv_turn nn hr c4 (fun ks hk => by
        have := L.keylen hr (ks := ks) (by
          unfold Row.keyOf at hk
          split at hk
          · rename_i k q; cases hk; exact q
          · cases hk)
        omega) (q := rndP dn q) (by omega) (by omega) (a1 := a1) (a2 := a2) (a3 := a3) (a4 := a4) (a5 := a5) (a7 := a7) (a8 := a8) (a11 := a11) f6 f12
      have er : rndP (dn ++ [r]) q = fireP (rndP dn q) r := by unfold rndP; rw [List.foldl_append]; rfl
      obtain ⟨l1, l2⟩ := fireP_len (rndP dn q) r
      refine ⟨_, ht, .sh (.str r.nm), .sh r.kin.d, soft_sh _, soft_sh _, ?_, ?_, by rw [er]⟩
      · rw [er, List.length_append, List.length_singleton]; omega
      · rw [er, List.length_append, List.length_singleton]; omega)
  refine ⟨s6', s12', g6, g12, by rw [List.nil_append] at gl; omega, by rw [List.nil_append] at gz; omega, ?_⟩
  rw [ss_eq, List.map_map]
  exact e
theorem pv_rounds {rows T : List Row} (L : Lines rows) (hT : ∀ r ∈ T, r ∈ rows) (tl : T.length ≤ 6) {B p : List Str} (bl : B.length ≤ 100) (pl : p.length ≤ 100) {a1 a3 a4 a5 s6 a7 a8 : Slot} (f6 : Slot.soft s6) :
    ∃ s6' s11' s12', (roundsP T T.length (B, p)).2.length ≤ 1000 ∧ forLoop (gtName 11) (svFor (ivOf (evVar 2)) (gtName 6) pvBody) (rangeD 0 T.length) [.sh (rowsD rows), a1, .sh (.lst (ss (T.map Row.nm))), a3, a4, a5, s6, a7, a8, .ow (.lst (ss B)), .ow (.lst (ss p)), .no, .no, .no] = .ok (.next, [.sh (rowsD rows), a1, .sh (.lst (ss (T.map Row.nm))), a3, a4, a5, s6', a7, a8, .ow (.lst (ss (roundsP T T.length (B, p)).1)), .ow (.lst (ss (roundsP T T.length (B, p)).2)), s11', s12', .no]) := by
  obtain ⟨ρ', e, s6', s11', s12', g6, g11, g12, gl, gz, rfl⟩ := for_inv (g := gtName 11) (body := svFor (ivOf (evVar 2)) (gtName 6) pvBody) (em := fun i : Nat => D.int (0 + (i : Int)))
    (fun dn ρ => ∃ s6 s11 s12, Slot.soft s6 ∧ Slot.soft s11 ∧ Slot.soft s12 ∧ (roundsP T dn.length (B, p)).1.length ≤ 100 + 24 * dn.length ∧ (roundsP T dn.length (B, p)).2.length ≤ 100 + 6 * dn.length ∧ ρ = [.sh (rowsD rows), a1, .sh (.lst (ss (T.map Row.nm))), a3, a4, a5, s6, a7, a8, .ow (.lst (ss (roundsP T dn.length (B, p)).1)), .ow (.lst (ss (roundsP T dn.length (B, p)).2)), s11, s12, .no])
    (List.range T.length) [] [.sh (rowsD rows), a1, .sh (.lst (ss (T.map Row.nm))), a3, a4, a5, s6, a7, a8, .ow (.lst (ss B)), .ow (.lst (ss p)), .no, .no, .no]
    ⟨s6, .no, .no, f6, soft_no, soft_no, by simp only [List.length_nil, roundsP]; omega, by simp only [List.length_nil, roundsP]; omega, rfl⟩ (by
      rintro dn i rest ρ hq ⟨s6, s11, s12, f6, f11, f12, gl, gz, rfl⟩
      have h2 := congrArg List.length hq
      simp at h2
      have rl : (T.map Row.nm).length ≤ 1000000 := by rw [List.length_map]; omega
      obtain ⟨t6, t12, q6, q12, ql, qz, lp⟩ := pv_rnd L hT tl (q := roundsP T dn.length (B, p)) (by omega) (by omega) (a1 := a1) (a2 := .sh (.lst (ss (T.map Row.nm)))) (a3 := a3) (a4 := a4) (a5 := a5) (a7 := a7) (a8 := a8) (a11 := .sh (.int (i : Int))) f6 f12
      have el : (dn ++ [i]).length = dn.length + 1 := by rw [List.length_append]; rfl
      refine ⟨_, ?_, t6, .sh (.int (i : Int)), t12, q6, soft_sh _, q12, ?_, ?_, rfl⟩
      · rw [el]
        have er : roundsP T (dn.length + 1) (B, p) = rndP T (roundsP T dn.length (B, p)) := rfl
        rw [er]
        generalize rndP T (roundsP T dn.length (B, p)) = Q2 at *
        generalize roundsP T dn.length (B, p) = Q1 at *
        generalize T.map Row.nm = RN at *
        simp -implicitDefEqProofs [turn, storeAt_soft, f11, lp, rl]
      · rw [el]
        show (rndP T (roundsP T dn.length (B, p))).1.length ≤ _
        omega
      · rw [el]
        show (rndP T (roundsP T dn.length (B, p))).2.length ≤ _
        omega)
  rw [List.nil_append, List.length_range] at gl gz
  refine ⟨s6', s11', s12', by omega, ?_⟩
  rw [List.nil_append, List.length_range] at e
  exact e
end Lw
set_option Elab.async false
set_option linter.all false
set_option maxRecDepth 100000
set_option maxHeartbeats 4000000
/-! the law's own view of a piece, as a call -/
namespace Lw
open PySem L2 Ft
abbrev hereBody : SV := svSet 5 (evOp2 dAdd (evVar 5) (evOps dList (avCons (evOp2 dIx (evOp2 dIx (evVar 0) (evVar 6)) (evC (.int 0))) (avNil))))
theorem here_loop {rows : List Row} (L : Lines rows) {p : List Str} (hp : ∀ n ∈ p, n ∈ rows.map Row.nm) (lp : p.length ≤ 100) {a1 a2 a4 : Slot} :
    ∃ s5 s6, (s5 = .ow (.lst (ss (p.flatMap (colsOf rows)))) ∨ s5 = .sh (.lst (ss (p.flatMap (colsOf rows))))) ∧ Slot.soft s6 ∧ (p.flatMap (colsOf rows)).length ≤ 400 ∧ forLoop (gtName 6) hereBody (ss p) [.sh (rowsD rows), a1, a2, .sh (.tup (ss p)), a4, .ow (.lst []), .no, .no, .no, .no, .no, .no, .no, .no] = .ok (.next, [.sh (rowsD rows), a1, a2, .sh (.tup (ss p)), a4, s5, s6, .no, .no, .no, .no, .no, .no, .no]) := by
  have nn := asc_nodup L.asc
  obtain ⟨ρ', e, s5, s6, g5, g6, gl, rfl⟩ := for_inv (g := gtName 6) (body := hereBody) (em := D.str) (fun dn ρ => ∃ s5 s6, (s5 = .ow (.lst (ss (dn.flatMap (colsOf rows)))) ∨ s5 = .sh (.lst (ss (dn.flatMap (colsOf rows))))) ∧ Slot.soft s6 ∧ (dn.flatMap (colsOf rows)).length ≤ 4 * dn.length ∧ ρ = [.sh (rowsD rows), a1, a2, .sh (.tup (ss p)), a4, s5, s6, .no, .no, .no, .no, .no, .no, .no])
    p [] [.sh (rowsD rows), a1, a2, .sh (.tup (ss p)), a4, .ow (.lst []), .no, .no, .no, .no, .no, .no, .no, .no] ⟨_, .no, .inl rfl, soft_no, by simp, rfl⟩ (by
      rintro dn n rest ρ hq ⟨s5, s6, h5, f6, gl, rfl⟩
      rw [List.nil_append] at hq
      obtain ⟨r, hr, e⟩ := List.mem_map.mp (hp n (by rw [hq]; simp))
      have h2 := congrArg List.length hq
      simp at h2
      have hd := dIx_row nn hr
      rw [e] at hd
      have ec : colsOf rows n = r.cols := by rw [← e]; exact colsOf_row nn hr
      have c4 := L.c4 r hr
      have ef : (dn ++ [n]).flatMap (colsOf rows) = dn.flatMap (colsOf rows) ++ r.cols := by
        rw [List.flatMap_append, List.flatMap_cons, List.flatMap_nil, List.append_nil, ec]
      have hadd : dAdd (.lst (ss (dn.flatMap (colsOf rows)))) (.lst (ss r.cols)) = some (.tmp (.lst (ss (dn.flatMap (colsOf rows) ++ r.cols)))) := by
        rw [← ss_app]
        refine if_pos ?_
        simp only [ss_len]
        omega
      refine ⟨[.sh (rowsD rows), a1, a2, .sh (.tup (ss p)), a4, .ow (.lst (ss (dn.flatMap (colsOf rows) ++ r.cols))), .sh (.str n), .no, .no, .no, .no, .no, .no, .no], ?_, _, _, .inl (by rw [ef]), soft_sh _, ?_, rfl⟩
      · generalize dn.flatMap (colsOf rows) = FM at *
        rcases h5 with rfl | rfl <;> simp -implicitDefEqProofs [turn, storeAt_soft, f6, hd, dIx_tup, ixN, Row.pair, hadd]
      · rw [ef, List.length_append, List.length_append, List.length_singleton]
        omega)
  rw [List.nil_append] at g5 gl
  refine ⟨s5, s6, g5, g6, by omega, ?_⟩
  rw [ss_eq]
  exact e
theorem law_piece_view_ok {rows T : List Row} {role : D} {cols : List Str} (M : Made rows) (hT : ∀ r ∈ T, r ∈ rows) (aT : Asc (T.map Row.nm)) (R : RoleOk rows role cols) {K p : List Str} (C : Clo T cols K) (lK : K.length ≤ 100) (ap : Asc p) (hp : ∀ n ∈ p, n ∈ rows.map Row.nm) (lp : p.length ≤ 100) :
    ∃ Z, fn__law_piece_view [rowsD rows, role, .lst (ss (T.map Row.nm)), .tup (ss p)] = .ok (.val (.tup [.tup (ss Z), .tup (ss (viewB rows K p))]), []) ∧ Clp rows T (viewB rows K p) p Z := by
  have A := R.asked M
  have L := M.L
  have nn := asc_nodup L.asc
  have nT := asc_nodup aT
  have tl : T.length ≤ 6 := by
    have := nodup_len nT (ys := rows.map Row.nm) fun x hx => by
      obtain ⟨r, hr, rfl⟩ := List.mem_map.mp hx
      exact List.mem_map.mpr ⟨r, hT r hr, rfl⟩
    have := L.six
    simp at *
    omega
  have h1 := law_role_cols L R
  obtain ⟨h, h2, hh⟩ := law_closure L hT tl (cols := cols) (by have := A.cl; omega)
  obtain ⟨a4, ha4⟩ : ∃ a4 : Slot, (h = .tmp (.lst (ss (cloR T cols))) ∧ a4 = .ow (.lst (ss (cloR T cols)))) ∨ (h = .val (.lst (ss (cloR T cols))) ∧ a4 = .sh (.lst (ss (cloR T cols)))) := by
    rcases hh with rfl | rfl
    · exact ⟨_, .inl ⟨rfl, rfl⟩⟩
    · exact ⟨_, .inr ⟨rfl, rfl⟩⟩
  clear hh
  obtain ⟨s5, s6, g5, g6, gl, e1⟩ := here_loop L hp lp (a1 := .sh role) (a2 := .sh (.lst (ss (T.map Row.nm)))) (a4 := a4)
  have eB : sortS (dedup ((p.flatMap (colsOf rows)).filter fun c => decide (c ∈ cloR T cols))) = viewB rows K p := by
    refine asc_same (sortS_asc (dedup_nodup _)) (asc_sub List.filter_sublist C.asc) fun x => ?_
    rw [mem_sortS, mem_dedup, List.mem_filter, List.mem_flatMap, decide_eq_true_eq, mem_viewB, clo_mem C]
    exact And.comm
  have lB : (viewB rows K p).length ≤ 100 := by
    have := List.length_filter_le (fun c => p.any fun n => decide (c ∈ colsOf rows n)) K
    unfold viewB
    omega
  have h3 : ∀ (s4 s5 : Slot), (s4 = .ow (.lst (ss (cloR T cols))) ∨ s4 = .sh (.lst (ss (cloR T cols)))) → lcLoop (gtName 13) (tst (evOp2 dIn (evVar 13) (evVar 4))) (evVar 13) [13] (ss (p.flatMap (colsOf rows))) [.sh (rowsD rows), .sh role, .sh (.lst (ss (T.map Row.nm))), .sh (.tup (ss p)), s4, s5, s6, .no, .no, .no, .no, .no, .no, .no] = .ok (ss ((p.flatMap (colsOf rows)).filter fun c => decide (c ∈ cloR T cols)), [.sh (rowsD rows), .sh role, .sh (.lst (ss (T.map Row.nm))), .sh (.tup (ss p)), s4, s5, s6, .no, .no, .no, .no, .no, .no, .no]) := fun s4 s5 hs4 =>
    lc_filter (em := D.str) (fun c => decide (c ∈ cloR T cols)) D.str _ fun x _ => by
      rcases hs4 with rfl | rfl <;> by_cases h : x ∈ cloR T cols <;> simp -implicitDefEqProofs [lcStep, h]
  obtain ⟨s6', s11', s12', zl, h4⟩ := pv_rounds L hT tl lB lp (a1 := .sh role) (a3 := .sh (.tup (ss p))) (a4 := a4) (a5 := .sh (.lst (ss (p.flatMap (colsOf rows))))) (a7 := .ow (.lst (ss ((p.flatMap (colsOf rows)).filter fun c => decide (c ∈ cloR T cols))))) (a8 := .ow (.lst (ss (viewB rows K p)))) g6
  refine ⟨sortS (dedup (roundsP T T.length (viewB rows K p, p)).2), ?_, sortS_asc (dedup_nodup _), fun x => by rw [mem_sortS, mem_dedup]; exact roundsP_all x⟩
  have fl := List.length_filter_le (fun c => decide (c ∈ cloR T cols)) (p.flatMap (colsOf rows))
  have fl2 : ((p.flatMap (colsOf rows)).filter fun c => decide (c ∈ cloR T cols)).length ≤ 4000 := by omega
  have zl2 : (roundsP T T.length (viewB rows K p, p)).2.length ≤ 4000 := by omega
  have h0 : (p.flatMap (colsOf rows)).length ≤ 1000000 := by omega
  have lp2 : p.length ≤ 1000000 := by omega
  have lB2 : (viewB rows K p).length ≤ 1000000 := by omega
  have f62 : few62 (T.length : Int) = true := by
    unfold few62
    simp only [Bool.and_eq_true, decide_eq_true_eq]
    omega
  have e0 : dLen [.lst (ss (T.map Row.nm))] = some (.val (.int (T.length : Int))) := by simp
  have h3a := h3 (.ow (.lst (ss (cloR T cols)))) (.sh (.lst (ss (p.flatMap (colsOf rows))))) (.inl rfl)
  have h3b := h3 (.sh (.lst (ss (cloR T cols)))) (.sh (.lst (ss (p.flatMap (colsOf rows))))) (.inr rfl)
  clear h3
  generalize (p.flatMap (colsOf rows)).filter (fun c => decide (c ∈ cloR T cols)) = FM at *
  generalize p.flatMap (colsOf rows) = FA at *
  generalize roundsP T T.length (viewB rows K p, p) = RP at *
  generalize viewB rows K p = VB at *
  generalize cloR T cols = CR at *
  generalize T.map Row.nm = TN at *
  rcases ha4 with ⟨rfl, rfl⟩ | ⟨rfl, rfl⟩
  · rcases g5 with rfl | rfl <;> simp -implicitDefEqProofs [fn__law_piece_view, fnOf_app, b__law_piece_view, h1, h2, e1, h3a, eB, h4, fl2, zl2, h0, lp2, lB2, f62, e0]
  · rcases g5 with rfl | rfl <;> simp -implicitDefEqProofs [fn__law_piece_view, fnOf_app, b__law_piece_view, h1, h2, e1, h3b, eB, h4, fl2, zl2, h0, lp2, lB2, f62, e0]
end Lw
set_option Elab.async false
set_option linter.all false
set_option maxRecDepth 100000
set_option maxHeartbeats 4000000
/-! piece_views, closed_piece -/
namespace Lw
open PySem L2 Ft
theorem pys_ts : ∀ ps : List (List Str), D.pys (tsD ps) = some (ps.map fun p => PyData.tuple (p.map PyData.str))
  | [] => rfl
  | p :: ps => by
    show D.pys (D.tup (ss p) :: tsD ps) = _
    rw [D.pys, py_tupss, pys_ts ps]
    rfl
theorem in_ts {p : List Str} {ps : List (List Str)} (h : p ∈ ps) : dInB (.tup (ss p)) (.tup (tsD ps)) = some true := by
  have hf : flatEnough (PyData.tuple (p.map PyData.str)) = true := by
    unfold flatEnough
    have := depth_tup p
    rw [decide_eq_true_eq]
    omega
  have ha : ((ps.map fun p => PyData.tuple (p.map PyData.str)).any fun y => PyData.eqv y (PyData.tuple (p.map PyData.str))) = true := by
    rw [List.any_eq_true]
    exact ⟨_, List.mem_map.mpr ⟨p, h, rfl⟩, PySem.SeqAt.eqv_refl_plain _ (py_plain (py_tupss p))⟩
  show (match D.py (.tup (ss p)), D.pys (tsD ps) with | some p, some ps => if flatEnough p then some (ps.any fun y => PyData.eqv y p) else none | _, _ => none) = _
  rw [py_tupss, pys_ts]
  simp only [hf, ha, if_true]
def clpOf (T : List Row) (B p : List Str) : List Str := sortS (dedup (p ++ (T.filter fun r => okr (cloR T B) r).map Row.nm))
theorem clp_of (rows T : List Row) (B p : List Str) : Clp rows T B p (clpOf T B p) where
  asc := sortS_asc (dedup_nodup _)
  mem := fun x => by
    unfold clpOf
    rw [mem_sortS, mem_dedup, List.mem_append, List.mem_map]
    simp only [List.mem_filter]
    constructor
    · rintro (h | ⟨r, ⟨h1, h2⟩, e⟩)
      · exact .inl h
      · exact .inr ⟨r, h1, e, h2⟩
    · rintro (h | ⟨r, h1, e, h2⟩)
      · exact .inl h
      · exact .inr ⟨r, ⟨h1, h2⟩, e⟩
abbrev Vw := List Str × List Str
def vwD (v : Vw) : D := .tup [.tup (ss v.1), .tup (ss v.2)]
def vwOf (rows T : List Row) (K p : List Str) : Vw := (clpOf T (viewB rows K p) p, viewB rows K p)
theorem part_ok {rows T : List Row} {role : D} {out : Str → List Str} {ps : List (List Str)} (hT : ∀ r ∈ T, r ∈ rows) (l6 : rows.length ≤ 6) (P : Parts (namesOf T role) out ps) : ∀ p ∈ ps, Asc p ∧ (∀ n ∈ p, n ∈ rows.map Row.nm) ∧ p.length ≤ 100 := fun p hp => by
  obtain ⟨h1, h2⟩ := P.part p hp
  have h3 : ∀ n ∈ p, n ∈ rows.map Row.nm := fun n hn => by
    obtain ⟨r, hr, e⟩ := List.mem_map.mp (h1.sub n hn)
    exact List.mem_map.mpr ⟨r, hT r (List.mem_filter.mp hr).1, e⟩
  have := nodup_len (asc_nodup h2) h3
  rw [List.length_map] at this
  exact ⟨h2, h3, by omega⟩
theorem clo_len {rows T : List Row} {cols K : List Str} (L : Lines rows) (hT : ∀ r ∈ T, r ∈ rows) (hc : ∀ c ∈ cols, c ∈ everyOf rows) (C : Clo T cols K) : K.length ≤ 100 := by
  have h : ∀ c ∈ K, c ∈ everyOf rows := C.least (everyOf rows) (fun r hr ks _ _ c hc => mem_every.mpr ⟨r, hT r hr, hc⟩) hc
  have := nodup_len (asc_nodup C.asc) h
  unfold everyOf at this
  rw [sortS_length] at this
  have := L.few
  omega
theorem view_fn {rows T : List Row} (M : Made rows) (hT : ∀ r ∈ T, r ∈ rows) (aT : Asc (T.map Row.nm)) {K p : List Str} (aK : Asc K) (lK : K.length ≤ 100) (hp : Asc p ∧ (∀ n ∈ p, n ∈ rows.map Row.nm) ∧ p.length ≤ 100) :
    fn_view_of_piece [scD rows, .tup (ss K), .tup (ss (T.map Row.nm)), .tup (ss p)] = .ok (.val (vwD (vwOf rows T K p)), []) := by
  obtain ⟨Z, e, c⟩ := view_of_piece_ok M hT aT aK lK hp.1 hp.2.1 hp.2.2
  rw [c.uniq (clp_of rows T _ p)] at e
  exact e
theorem law_view_fn {rows T : List Row} {role : D} {cols : List Str} (M : Made rows) (hT : ∀ r ∈ T, r ∈ rows) (aT : Asc (T.map Row.nm)) (R : RoleOk rows role cols) {K p : List Str} (C : Clo T cols K) (lK : K.length ≤ 100) (hp : Asc p ∧ (∀ n ∈ p, n ∈ rows.map Row.nm) ∧ p.length ≤ 100) :
    fn__law_piece_view [rowsD rows, role, .lst (ss (T.map Row.nm)), .tup (ss p)] = .ok (.val (vwD (vwOf rows T K p)), []) := by
  obtain ⟨Z, e, c⟩ := law_piece_view_ok M hT aT R C lK hp.1 hp.2.1 hp.2.2
  rw [c.uniq (clp_of rows T _ p)] at e
  exact e
theorem views_in_ok {rows T : List Row} {role : D} {cols : List Str} (M : Made rows) (hT : ∀ r ∈ T, r ∈ rows) (aT : Asc (T.map Row.nm)) (R : RoleOk rows role cols) {K : List Str} (C : Clo T cols K) :
    ∃ ps, fn_pieces_in [scD rows, role, .tup (ss (T.map Row.nm))] = .ok (.val (.tup (tsD ps)), []) ∧ fn_piece_views_in [scD rows, role, .tup (ss (T.map Row.nm))] = .ok (.val (.tup (ps.map fun p => vwD (vwOf rows T K p))), []) ∧ Parts (namesOf T role) (outOf T (cloR T cols)) ps ∧ ps.length ≤ 6 := by
  have A := R.asked M
  have L := M.L
  obtain ⟨ps, e, P, pl⟩ := pieces_in_ok M hT aT R
  have lK := clo_len L hT A.ce C
  have h1 := role_cols M R
  obtain ⟨K2, C2, h2⟩ := closure_in_ok M hT aT (asc_nodup A.ca) (by have := A.cl; omega)
  obtain rfl := C.uniq C2
  have h3 : lcLoop (gtName 4) (bvYes) (evCall [false,false,false,false] fn_view_of_piece [] (cvFr (evVar 0) (cvFr (evVar 3) (cvFr (evVar 2) (cvFr (evVar 4) (cvNil)))))) [4] (tsD ps) [.sh (scD rows), .sh role, .sh (.tup (ss (T.map Row.nm))), .sh (.tup (ss K)), .no] = .ok (ps.map (fun p => vwD (vwOf rows T K p)), [.sh (scD rows), .sh role, .sh (.tup (ss (T.map Row.nm))), .sh (.tup (ss K)), .no]) :=
    lc_map (em := fun p : List Str => D.tup (ss p)) _ ps fun p hp => by
      have h := view_fn M hT aT C.asc lK (part_ok hT L.six P p hp)
      generalize vwD (vwOf rows T K p) = VW at *
      generalize T.map Row.nm = TN at *
      generalize scD rows = SC at *
      simp -implicitDefEqProofs [lcStep, h]
  have pl2 : (tsD ps).length ≤ 1000000 := by unfold tsD; rw [List.length_map]; omega
  have pl3 : (ps.map (fun p => vwD (vwOf rows T K p))).length ≤ 1000000 := by rw [List.length_map]; omega
  refine ⟨ps, e, ?_, P, pl⟩
  generalize ps.map (fun p => vwD (vwOf rows T K p)) = VW at *
  generalize tsD ps = TS at *
  generalize T.map Row.nm = TN at *
  generalize scD rows = SC at *
  simp -implicitDefEqProofs [fn_piece_views_in, fnOf_app, b_piece_views_in, h1, h2, e, h3, pl2, pl3]
theorem given_none {rows : List Row} (role : D) : fn_given_tables [scD rows, role, .non] = .ok (.val (.tup (ss (rows.map Row.nm))), []) := by
  have h4 := sc_tables rows
  have i1 : dIsNon .non .non = some (.val (.bl true)) := rfl
  generalize rows.map Row.nm = RN at *
  unfold scD at *
  simp -implicitDefEqProofs [fn_given_tables, fnOf_app, b_given_tables, h4, i1]
theorem given_some {rows T : List Row} {role : D} {cols : List Str} (M : Made rows) (hT : ∀ r ∈ T, r ∈ rows) (aT : Asc (T.map Row.nm)) (h0 : T ≠ []) (R : RoleOk rows role cols) (hr : ∀ y, role = .str y → y ∈ T.map Row.nm) : fn_given_tables [scD rows, role, .tup (ss (T.map Row.nm))] = .ok (.val (.tup (ss (T.map Row.nm))), []) := by
  have tl : (T.map Row.nm).length ≤ 1000 := by
    have := nodup_len (asc_nodup aT) (ys := rows.map Row.nm) fun x hx => by
      obtain ⟨r, hr, rfl⟩ := List.mem_map.mp hx
      exact List.mem_map.mpr ⟨r, hT r hr, rfl⟩
    have := M.L.six
    simp at *
    omega
  have h4 := are_tabs (rows := rows) aT (fun x hx => by
    obtain ⟨r, hr, rfl⟩ := List.mem_map.mp hx
    exact M.L.nm r (hT r hr)) (fun x hx => by
    obtain ⟨r, hr, rfl⟩ := List.mem_map.mp hx
    exact List.mem_map.mpr ⟨r, hT r hr, rfl⟩) tl
  have h6 : T.map Row.nm ≠ [] := fun z => h0 (List.map_eq_nil_iff.mp z)
  have h7 : fn_require_tables [scD rows, .tup (ss (T.map Row.nm))] = .ok (.val .non, []) := by
    simp -implicitDefEqProofs [-List.map_eq_nil_iff, fn_require_tables, fnOf_app, b_require_tables, h4, h6]
  have i1 : ∀ ds, dIsNon (.tup ds) .non = some (.val (.bl false)) := fun _ => rfl
  cases R with
  | tab hrr hc =>
    have hm := hr _ rfl
    generalize T.map Row.nm = TN at *
    simp -implicitDefEqProofs [fn_given_tables, fnOf_app, b_given_tables, h7, i1, hm]
  | door a h =>
    generalize T.map Row.nm = TN at *
    simp -implicitDefEqProofs [fn_given_tables, fnOf_app, b_given_tables, h7, i1]
theorem asked_role {rows : List Row} {role : D} {cols : List Str} (M : Made rows) (R : RoleOk rows role cols) : fn_require_scene [scD rows] = .ok (.val .non, []) ∧ fn_require_role [scD rows, role] = .ok (.val .non, []) := by
  have h1 := is_role M R
  constructor
  · simp -implicitDefEqProofs [fn_require_scene, fnOf_app, b_require_scene]
  · simp -implicitDefEqProofs [fn_require_role, fnOf_app, b_require_role, h1]
/-- what is told of the pieces of some tables, when g is given for them -/
theorem told_pieces {rows T : List Row} {role : D} {cols : List Str} (M : Made rows) (hT : ∀ r ∈ T, r ∈ rows) (aT : Asc (T.map Row.nm)) (R : RoleOk rows role cols) {K : List Str} (C : Clo T cols K) {g : D} (hg : fn_given_tables [scD rows, role, g] = .ok (.val (.tup (ss (T.map Row.nm))), [])) :
    ∃ ps, Parts (namesOf T role) (outOf T (cloR T cols)) ps ∧ ps.length ≤ 6 ∧ fn_pieces [scD rows, role, g] = .ok (.val (.tup (tsD ps)), []) ∧ fn_piece_views [scD rows, role, g] = .ok (.val (.tup (ps.map fun p => vwD (vwOf rows T K p))), []) ∧ ∀ p ∈ ps, fn_closed_piece [scD rows, role, .tup (ss p), g] = .ok (.val (.tup (ss (clpOf T (viewB rows K p) p))), []) := by
  have A := R.asked M
  have L := M.L
  have lK := clo_len L hT A.ce C
  obtain ⟨ps, e1, e2, P, pl⟩ := views_in_ok M hT aT R C
  obtain ⟨h1, h2⟩ := asked_role M R
  have h3 := role_cols M R
  obtain ⟨K2, C2, h4⟩ := closure_in_ok M hT aT (asc_nodup A.ca) (by have := A.cl; omega)
  obtain rfl := C.uniq C2
  refine ⟨ps, P, pl, ?_, ?_, fun p hp => ?_⟩
  · generalize T.map Row.nm = TN at *
    generalize scD rows = SC at *
    simp -implicitDefEqProofs [fn_pieces, fnOf_app, b_pieces, h1, h2, hg, e1]
  · generalize ps.map (fun p => vwD (vwOf rows T K p)) = VW at *
    generalize T.map Row.nm = TN at *
    generalize scD rows = SC at *
    simp -implicitDefEqProofs [fn_piece_views, fnOf_app, b_piece_views, h1, h2, hg, e2]
  · have h := view_fn M hT aT C.asc lK (part_ok hT L.six P p hp)
    have hi := in_ts hp
    have ev : vwD (vwOf rows T K p) = .tup [.tup (ss (clpOf T (viewB rows K p) p)), .tup (ss (viewB rows K p))] := rfl
    rw [ev] at h
    generalize clpOf T (viewB rows K p) p = CP at *
    generalize viewB rows K p = VB at *
    generalize tsD ps = TS at *
    generalize T.map Row.nm = TN at *
    generalize scD rows = SC at *
    simp -implicitDefEqProofs [fn_closed_piece, fnOf_app, b_closed_piece, h1, h2, h3, h4, hg, e1, hi, h, dIx_tup, ixN]
end Lw
set_option Elab.async false
set_option linter.all false
set_option maxRecDepth 100000
set_option maxHeartbeats 4000000
/-! a case of the law -/
namespace Lw
open PySem L2 Ft
theorem py_lst {xs : List D} {n : Nat} (h : ∀ x ∈ xs, ∃ p, D.py x = some p ∧ p.depth ≤ n) : ∃ p, D.py (.lst xs) = some p ∧ p.depth ≤ n + 2 := by
  obtain ⟨ps, e, hp⟩ := eqAll_depth h
  refine ⟨.list ps, by rw [D.py, e]; rfl, ?_⟩
  simp only [PyData.depth]
  omega
theorem eq_flat {d : D} {p : PyData} {n : Nat} (e : D.py d = some p) (h : p.depth ≤ n) (hn : n ≤ 60) : dEqB d d = some true := by
  refine eq_refl_py e ?_
  unfold flatEnough
  rw [decide_eq_true_eq]
  omega
theorem py_vw (v : Vw) : ∃ p, D.py (vwD v) = some p ∧ p.depth ≤ 5 := py_tup (n := 3) fun x hx => by
  rcases List.mem_cons.mp hx with rfl | hx
  · exact py_ss v.1
  · rw [List.mem_singleton.mp hx]; exact py_ss v.2
theorem eq_vws (vs : List Vw) : dEqB (.tup (vs.map vwD)) (.tup (vs.map vwD)) = some true := by
  obtain ⟨p, e, h⟩ := py_tup (xs := vs.map vwD) (n := 5) fun x hx => by
    obtain ⟨v, _, rfl⟩ := List.mem_map.mp hx
    exact py_vw v
  exact eq_flat e h (by omega)
theorem eq_tsl (ps : List (List Str)) : dEqB (.lst (tsD ps)) (.lst (tsD ps)) = some true := by
  obtain ⟨p, e, h⟩ := py_lst (xs := tsD ps) (n := 3) fun x hx => by
    obtain ⟨v, _, rfl⟩ := List.mem_map.mp hx
    exact py_ss v
  exact eq_flat e h (by omega)
abbrev cBody : SV := (svSeq (svSet 5 (evCall [false,false,false] fn__law_groups [] (cvFr (evVar 1) (cvFr (evVar 3) (cvFr (evVar 4) (cvNil)))))) (svSeq (svSet 6 (evLc (ivOf (evVar 5)) (gtName 9) (bvYes) (evCall [false,false,false,false] fn__law_piece_view [] (cvFr (evVar 1) (cvFr (evVar 3) (cvFr (evVar 4) (cvFr (evVar 9) (cvNil)))))) [9])) (svSeq (svIf (tst (evOp2 dNe (evCall [false,false,false] fn_piece_views [] (cvK (cvFr (evVar 2) (cvFr (evVar 3) (cvNil))) (gvCons (evOps dTuple (avCons (evVar 4) (avNil))) (gvNil)) putKw)) (evOps dTuple (avCons (evVar 6) (avNil))))) (svRet (evC (.bl false))) (svNext)) (svSeq (svSet 7 (evLc (ivOf (evVar 5)) (gtName 9) (bvYes) (evCall [false,false,false,false] fn_closed_piece [] (cvK (cvFr (evVar 2) (cvFr (evVar 3) (cvFr (evVar 9) (cvNil)))) (gvCons (evOps dTuple (avCons (evVar 4) (avNil))) (gvNil)) putKw)) [9])) (svIf (bvOr (tst (evOp2 dNe (evVar 7) (evLc (ivOf (evVar 6)) (gtTup 2 (gtCons (gtName 8) (gtCons (gtName 10) (gtNil)))) (bvYes) (evVar 8) [8, 10]))) (tst (evOp2 dNe (evCall [false,false,false] fn_pieces [] (cvK (cvFr (evVar 2) (cvFr (evVar 3) (cvNil))) (gvCons (evOps dTuple (avCons (evVar 4) (avNil))) (gvNil)) putKw)) (evVar 5)))) (svRet (evC (.bl false))) (svNext))))))
theorem case_turn {rows T : List Row} {role : D} {cols : List Str} (M : Made rows) (hT : ∀ r ∈ T, r ∈ rows) (aT : Asc (T.map Row.nm)) (h0 : T ≠ []) (R : RoleOk rows role cols) (hr : ∀ y, role = .str y → y ∈ T.map Row.nm) {a0 a2 s4 s5 s6 s7 : Slot} (h2 : a2 = .ow (scD rows) ∨ a2 = .sh (scD rows)) (f4 : Slot.soft s4) (f5 : Slot.soft s5) (f6 : Slot.soft s6) (f7 : Slot.soft s7) :
    ∃ s4' s5' s6' s7', Slot.soft s4' ∧ Slot.soft s5' ∧ Slot.soft s6' ∧ Slot.soft s7' ∧ turn (gtName 4) cBody (.lst (ss (T.map Row.nm))) [a0, .sh (rowsD rows), a2, .sh role, s4, s5, s6, s7, .no, .no, .no] = .ok (.next, [a0, .sh (rowsD rows), .sh (scD rows), .sh role, s4', s5', s6', s7', .no, .no, .no]) := by
  have A := R.asked M
  obtain ⟨K, C, _⟩ := closure_in_ok M hT aT (asc_nodup A.ca) (by have := A.cl; omega)
  have lK := clo_len M.L hT A.ce C
  obtain ⟨ps, P, pl, e1, e2, e3⟩ := told_pieces M hT aT R C (given_some M hT aT h0 R hr)
  obtain ⟨qs, e4, Q⟩ := law_groups M hT aT R
  obtain rfl := P.uniq Q
  have h6 : ∀ s2 s6 s7 : Slot, lcLoop (gtName 9) (bvYes) (evCall [false,false,false,false] fn__law_piece_view [] (cvFr (evVar 1) (cvFr (evVar 3) (cvFr (evVar 4) (cvFr (evVar 9) (cvNil)))))) [9] (tsD ps) [a0, .sh (rowsD rows), s2, .sh role, .sh (.lst (ss (T.map Row.nm))), .sh (.tup (tsD ps)), s6, s7, .no, .no, .no] = .ok ((ps.map (vwOf rows T K)).map vwD, [a0, .sh (rowsD rows), s2, .sh role, .sh (.lst (ss (T.map Row.nm))), .sh (.tup (tsD ps)), s6, s7, .no, .no, .no]) := fun s2 s6 s7 => by
    rw [List.map_map]
    refine lc_map (em := fun p : List Str => D.tup (ss p)) _ ps fun p hp => ?_
    have h := law_view_fn M hT aT R C lK (part_ok hT M.L.six P p hp)
    show _ = Res.ok (some (vwD (vwOf rows T K p)), _)
    generalize vwD (vwOf rows T K p) = VW at *
    generalize tsD ps = TS at *
    generalize scD rows = SC at *
    generalize rowsD rows = RD at *
    generalize T.map Row.nm = TN at *
    simp -implicitDefEqProofs [lcStep, h]
  have h7 : ∀ s6 s7 : Slot, lcLoop (gtName 9) (bvYes) (evCall [false,false,false,false] fn_closed_piece [] (cvK (cvFr (evVar 2) (cvFr (evVar 3) (cvFr (evVar 9) (cvNil)))) (gvCons (evOps dTuple (avCons (evVar 4) (avNil))) (gvNil)) putKw)) [9] (tsD ps) [a0, .sh (rowsD rows), .sh (scD rows), .sh role, .sh (.lst (ss (T.map Row.nm))), .sh (.tup (tsD ps)), s6, s7, .no, .no, .no] = .ok (tsD ((ps.map (vwOf rows T K)).map (·.1)), [a0, .sh (rowsD rows), .sh (scD rows), .sh role, .sh (.lst (ss (T.map Row.nm))), .sh (.tup (tsD ps)), s6, s7, .no, .no, .no]) := fun s6 s7 => by
    unfold tsD
    rw [List.map_map, List.map_map]
    refine lc_map (em := fun p : List Str => D.tup (ss p)) _ ps fun p hp => ?_
    have h := e3 p hp
    show _ = Res.ok (some (D.tup (ss (clpOf T (viewB rows K p) p))), _)
    generalize clpOf T (viewB rows K p) p = CP at *
    generalize scD rows = SC at *
    generalize rowsD rows = RD at *
    generalize T.map Row.nm = TN at *
    simp -implicitDefEqProofs [lcStep, putKw, h]
  have e2 : fn_piece_views [scD rows, role, .tup (ss (T.map Row.nm))] = .ok (.val (.tup ((ps.map (vwOf rows T K)).map vwD)), []) := by
    rw [e2, List.map_map]; rfl
  clear e3
  have pl2 : (tsD ps).length ≤ 1000000 := by unfold tsD; rw [List.length_map]; omega
  have vl : (ps.map (vwOf rows T K)).length ≤ 6 := by rw [List.length_map]; exact pl
  have k3 := eq_ts ps
  generalize ps.map (vwOf rows T K) = VS at *
  have h8 : ∀ s7 : Slot, lcLoop (gtTup 2 (gtCons (gtName 8) (gtCons (gtName 10) (gtNil)))) (bvYes) (evVar 8) [8, 10] (VS.map vwD) [a0, .sh (rowsD rows), .sh (scD rows), .sh role, .sh (.lst (ss (T.map Row.nm))), .sh (.tup (tsD ps)), .sh (.lst (VS.map vwD)), s7, .no, .no, .no] = .ok (tsD (VS.map (·.1)), [a0, .sh (rowsD rows), .sh (scD rows), .sh role, .sh (.lst (ss (T.map Row.nm))), .sh (.tup (tsD ps)), .sh (.lst (VS.map vwD)), s7, .no, .no, .no]) := fun s7 => by
    have e : tsD (VS.map (·.1)) = VS.map fun v => D.tup (ss v.1) := by unfold tsD; rw [List.map_map]; rfl
    rw [e]
    refine lc_map (em := vwD) (fun v => .tup (ss v.1)) VS fun v _ => ?_
    unfold vwD
    generalize VS.map (fun v : Vw => D.tup [.tup (ss v.1), .tup (ss v.2)]) = VD at *
    generalize tsD ps = TS at *
    generalize scD rows = SC at *
    generalize rowsD rows = RD at *
    generalize T.map Row.nm = TN at *
    simp -implicitDefEqProofs [lcStep]
  have k1 := eq_vws VS
  have k2 := eq_tsl (VS.map (·.1))
  have vl2 : (VS.map vwD).length ≤ 1000000 := by rw [List.length_map]; omega
  refine ⟨.sh (.lst (ss (T.map Row.nm))), .sh (.tup (tsD ps)), .sh (.lst (VS.map vwD)), .ow (.lst (tsD (VS.map (·.1)))), soft_sh _, soft_sh _, soft_sh _, soft_ow _, ?_⟩
  generalize VS.map vwD = VD at *
  generalize tsD (VS.map (·.1)) = VT at *
  generalize tsD ps = TS at *
  generalize scD rows = SC at *
  generalize rowsD rows = RD at *
  generalize T.map Row.nm = TN at *
  rcases h2 with rfl | rfl <;> simp -implicitDefEqProofs [turn, storeAt_soft, putKw, f4, f5, f6, f7, e1, e2, e4, h6, h7, h8, k1, k2, k3, vl2, pl2]
end Lw
set_option Elab.async false
set_option linter.all false
set_option maxRecDepth 100000
set_option maxHeartbeats 4000000
/-! the law -/
namespace Lw
open PySem L2 Ft
theorem case_right {d : D} (hd : Dice d) : ∃ d', fn__law_case_right [d] = .ok (.val (.bl true), [d']) ∧ Dice d' := by
  obtain ⟨rows, pool, d1, e1, hd1, hr, pn, pw, pl⟩ := scene hd (mt := 6) (mc := 6) (still := 2) (by omega) (by omega) (by omega) (by omega) (by omega) (by omega)
  have e1 : fn__law_scene [d, .int 6, .int 6, .int 2] = _ := e1
  have L := rows_lines hr pn pw (by omega) (by omega)
  have M : Made rows := ⟨L, norm_rows hr⟩
  have l1 := L.one
  have e2 := made_ok L
  rw [M.norm] at e2
  obtain ⟨role, cols, d2, e3, hd2, R⟩ := law_role_ok M hd1
  obtain ⟨T, d3, e4, hd3, hT, aT, h0, hrole⟩ := law_given M R hd2
  have e5 := sorted_rows L
  have ne : rows ≠ [] := fun z => by rw [z] at l1; simp at l1
  obtain ⟨ρ', el, a2, s4, s5, s6, s7, q2, f4, f5, f6, f7, rfl⟩ := for_all (g := gtName 4) (body := cBody) (em := fun T : List Row => D.lst (ss (T.map Row.nm))) (fun ρ => ∃ a2 s4 s5 s6 s7, (a2 = .ow (scD rows) ∨ a2 = .sh (scD rows)) ∧ Slot.soft s4 ∧ Slot.soft s5 ∧ Slot.soft s6 ∧ Slot.soft s7 ∧ ρ = [.ln d3, .sh (rowsD rows), a2, .sh role, s4, s5, s6, s7, .no, .no, .no])
    [rows, T] [.ln d3, .sh (rowsD rows), .ow (scD rows), .sh role, .no, .no, .no, .no, .no, .no, .no] ⟨_, .no, .no, .no, .no, .inl rfl, soft_no, soft_no, soft_no, soft_no, rfl⟩ (by
      rintro U hU ρ ⟨a2, s4, s5, s6, s7, q2, f4, f5, f6, f7, rfl⟩
      rcases List.mem_cons.mp hU with rfl | hU
      · obtain ⟨t4, t5, t6, t7, g4, g5, g6, g7, e⟩ := case_turn M (fun _ h => h) L.asc ne R (fun y e => by
          cases R with
          | tab hrr hc => cases e; exact List.mem_map.mpr ⟨_, hrr, rfl⟩
          | door a h => cases e) q2 f4 f5 f6 f7 (a0 := .ln d3)
        exact ⟨_, e, _, t4, t5, t6, t7, .inr rfl, g4, g5, g6, g7, rfl⟩
      · rw [List.mem_singleton.mp hU]
        obtain ⟨t4, t5, t6, t7, g4, g5, g6, g7, e⟩ := case_turn M hT aT h0 R hrole q2 f4 f5 f6 f7 (a0 := .ln d3)
        exact ⟨_, e, _, t4, t5, t6, t7, .inr rfl, g4, g5, g6, g7, rfl⟩)
  have el : forLoop (gtName 4) cBody [.lst (ss (rows.map Row.nm)), .lst (ss (T.map Row.nm))] [.ln d3, .sh (rowsD rows), .ow (scD rows), .sh role, .no, .no, .no, .no, .no, .no, .no] = _ := el
  have A := R.asked M
  obtain ⟨K, C, _⟩ := closure_in_ok M (fun _ h => h) L.asc (asc_nodup A.ca) (by have := A.cl; omega)
  have lK := clo_len L (fun _ h => h) A.ce C
  obtain ⟨ps, P, pl6, _, p2, _⟩ := told_pieces M (fun _ h => h) L.asc R C (given_none role)
  obtain ⟨qs, g1, Q⟩ := law_groups M (fun _ h => h) L.asc R
  obtain rfl := P.uniq Q
  have h6 : ∀ s2 s4 s6 s7 : Slot, lcLoop (gtName 9) (bvYes) (evCall [false,false,false,false] fn__law_piece_view [] (cvFr (evVar 1) (cvFr (evVar 3) (cvFr (evVar 8) (cvFr (evVar 9) (cvNil)))))) [9] (tsD ps) [.ln d3, .sh (rowsD rows), s2, .sh role, s4, .sh (.tup (tsD ps)), s6, s7, .sh (.lst (ss (rows.map Row.nm))), .no, .no] = .ok ((ps.map (vwOf rows rows K)).map vwD, [.ln d3, .sh (rowsD rows), s2, .sh role, s4, .sh (.tup (tsD ps)), s6, s7, .sh (.lst (ss (rows.map Row.nm))), .no, .no]) := fun s2 s4 s6 s7 => by
    rw [List.map_map]
    refine lc_map (em := fun p : List Str => D.tup (ss p)) _ ps fun p hp => ?_
    have h := law_view_fn M (fun _ h => h) L.asc R C lK (part_ok (fun _ h => h) L.six P p hp)
    show _ = Res.ok (some (vwD (vwOf rows rows K p)), _)
    generalize vwD (vwOf rows rows K p) = VW at *
    generalize tsD ps = TS at *
    generalize rows.map Row.nm = RN at *
    generalize rowsD rows = RD at *
    simp -implicitDefEqProofs [lcStep, h]
  have p2 : fn_piece_views [scD rows, role, .non] = .ok (.val (.tup ((ps.map (vwOf rows rows K)).map vwD)), []) := by
    rw [p2, List.map_map]; rfl
  have k1 := eq_vws (ps.map (vwOf rows rows K))
  have vl : ((ps.map (vwOf rows rows K)).map vwD).length ≤ 1000000 := by rw [List.length_map, List.length_map]; omega
  have pl2 : (tsD ps).length ≤ 1000000 := by unfold tsD; rw [List.length_map]; omega
  refine ⟨d3, ?_, hd3⟩
  generalize (ps.map (vwOf rows rows K)).map vwD = VD at *
  generalize tsD ps = TS at *
  generalize T.map Row.nm = TN at *
  generalize rows.map Row.nm = RN at *
  generalize scD rows = SC at *
  generalize rowsD rows = RD at *
  rcases q2 with rfl | rfl <;> simp -implicitDefEqProofs [fn__law_case_right, fnOf_app, b__law_case_right, storeAt_soft, f4, f5, f6, f7, e1, e2, e3, e4, e5, el, g1, p2, h6, k1, vl, pl2]
end Lw
set_option Elab.async false
set_option linter.all false
set_option maxRecDepth 100000
set_option maxHeartbeats 4000000
/-! the written scenes; the law -/
namespace Lw
open PySem L2 Ft
def cloB (T : List Row) (cols K : List Str) : Bool := decide (Asc K) && (K.all fun c => decide (c ∈ cloR T cols)) && ((cloR T cols).all fun c => decide (c ∈ K))
theorem cloB_ok {T : List Row} {cols K : List Str} (h : cloB T cols K = true) : Clo T cols K := by
  unfold cloB at h
  simp only [Bool.and_eq_true, decide_eq_true_eq, List.all_eq_true] at h
  obtain ⟨⟨h1, h2⟩, h3⟩ := h
  exact ⟨h1, fun c hc => h3 c (cloR_sub T cols c hc), closed_same (fun x => ⟨h3 x, h2 x⟩) (cloR_closed T cols), fun S hS hc c h => cloR_least hS hc c (h2 c h)⟩
def clpB (T : List Row) (B p Z : List Str) : Bool := decide (Asc Z) && (Z.all fun x => decide (x ∈ p) || T.any fun r => decide (r.nm = x) && okr (cloR T B) r) && (p.all fun x => decide (x ∈ Z)) && (T.all fun r => !okr (cloR T B) r || decide (r.nm ∈ Z))
theorem clpB_ok (rows : List Row) {T : List Row} {B p Z : List Str} (h : clpB T B p Z = true) : Clp rows T B p Z := by
  unfold clpB at h
  simp only [Bool.and_eq_true, decide_eq_true_eq, List.all_eq_true, Bool.or_eq_true, List.any_eq_true, Bool.not_eq_true'] at h
  obtain ⟨⟨⟨h1, h2⟩, h3⟩, h4⟩ := h
  refine ⟨h1, fun x => ⟨fun hx => h2 x hx, ?_⟩⟩
  rintro (hx | ⟨r, hr, e, o⟩)
  · exact h3 x hx
  · rcases h4 r hr with z | z
    · rw [o] at z; cases z
    · rw [← e]; exact z
def vwB (rows T : List Row) (K p : List Str) (v : Vw) : Bool := decide (viewB rows K p = v.2) && clpB T v.2 p v.1
theorem vwB_ok {rows T : List Row} {K p : List Str} {v : Vw} (h : vwB rows T K p v = true) : vwOf rows T K p = v := by
  unfold vwB at h
  rw [Bool.and_eq_true, decide_eq_true_eq] at h
  obtain ⟨h1, h2⟩ := h
  unfold vwOf
  rw [h1, (clp_of rows T v.2 p).uniq (clpB_ok rows h2)]
def vwsB (rows T : List Row) (K : List Str) : List (List Str) → List Vw → Bool
  | [], [] => true
  | p :: ps, v :: vs => vwB rows T K p v && vwsB rows T K ps vs
  | _, _ => false
theorem vwsB_ok {rows T : List Row} {K : List Str} : ∀ {ps : List (List Str)} {vs : List Vw}, vwsB rows T K ps vs = true → ps.map (vwOf rows T K) = vs
  | [], [], _ => rfl
  | [], _ :: _, h => nomatch h
  | _ :: _, [], h => nomatch h
  | p :: ps, v :: vs, h => by
    have h : (vwB rows T K p v && vwsB rows T K ps vs) = true := h
    rw [Bool.and_eq_true] at h
    rw [List.map_cons, vwB_ok h.1, vwsB_ok h.2]
theorem now_views {rows T : List Row} {role : D} {cols K : List Str} {ps : List (List Str)} {vs : List Vw} {g : D} (M : Made rows) (hT : (T.all fun r => decide (r ∈ rows)) = true) (aT : Asc (T.map Row.nm)) (R : RoleOk rows role cols) (hg : fn_given_tables [scD rows, role, g] = .ok (.val (.tup (ss (T.map Row.nm))), [])) (h : (cloB T cols K && partsB (namesOf T role) (outOf T (cloR T cols)) ps && vwsB rows T K ps vs) = true) :
    fn_piece_views [scD rows, role, g] = .ok (.val (.tup (vs.map vwD)), []) ∧ ∀ p v, p ∈ ps → vwOf rows T K p = v → fn_closed_piece [scD rows, role, .tup (ss p), g] = .ok (.val (.tup (ss v.1)), []) := by
  rw [Bool.and_eq_true, Bool.and_eq_true] at h
  obtain ⟨⟨h1, h2⟩, h3⟩ := h
  obtain ⟨qs, Q, _, _, e2, e3⟩ := told_pieces M (fun r hr => of_decide_eq_true (List.all_eq_true.mp hT r hr)) aT R (cloB_ok h1) hg
  obtain rfl := Q.uniq (partsB_ok h2)
  refine ⟨?_, fun p v hp e => ?_⟩
  · rw [e2, ← vwsB_ok h3, List.map_map]
    rfl
  · rw [e3 p hp, ← e]
    rfl
def kA : Row := ⟨"a", ["x"], .chg⟩
def kB : Row := ⟨"b", ["x", "z"], .chg⟩
def kK : Row := ⟨"k", ["x", "y"], .key ["x"]⟩
def kL : Row := ⟨"l", ["y", "z"], .key ["y"]⟩
def kN : Row := ⟨"n", ["z"], .key []⟩
def tL : Row := ⟨"l", ["x", "y"], .key ["y"]⟩
def rowsK : List Row := [kA, kB, kK, kL, kN]
def rowsT : List Row := [kA, kK, tL]
theorem LK : Lines rowsK := linesB_ok (by decide +kernel)
theorem MK : Made rowsK := ⟨LK, norm_of (by decide +kernel)⟩
theorem LT : Lines rowsT := linesB_ok (by decide +kernel)
theorem MT : Made rowsT := ⟨LT, norm_of (by decide +kernel)⟩
theorem RA : RoleOk rowsK (.str "a") ["x"] := RoleOk.tab (r := kA) (by decide +kernel) rfl
theorem RB : RoleOk rowsK (.str "b") ["x", "z"] := RoleOk.tab (r := kB) (by decide +kernel) rfl
theorem RY : RoleOk rowsK (.tup [.str "y"]) ["y"] := RoleOk.door (cols := ["y"]) (by decide +kernel) (mem_every2 (by decide +kernel))
theorem RT : RoleOk rowsT (.str "a") ["x"] := RoleOk.tab (r := kA) (by decide +kernel) rfl
theorem c1 : fn_closed_piece [scD rowsK, .str "a", .tup [.str "b"], .non] = .ok (.val (.tup [.str "b", .str "k", .str "l", .str "n"]), []) :=
  (now_views (T := rowsK) (K := ["x", "y", "z"]) (ps := [["b"], ["k"], ["l"], ["n"]]) (vs := [(["b", "k", "l", "n"], ["x", "z"]), (["k", "l", "n"], ["x", "y"]), (["l", "n"], ["y", "z"]), (["n"], ["z"])]) MK (by decide +kernel) LK.asc RA (given_none _) (by decide +kernel)).2 ["b"] (["b", "k", "l", "n"], ["x", "z"]) (by decide +kernel) (vwB_ok (by decide +kernel))
theorem c2 : fn_closed_piece [scD rowsK, .tup [.str "y"], .tup [.str "a", .str "b", .str "k"], .non] = .ok (.val (.tup [.str "a", .str "b", .str "k", .str "l", .str "n"]), []) :=
  (now_views (T := rowsK) (K := ["y", "z"]) (ps := [["a", "b", "k"], ["l"], ["n"]]) (vs := [(["a", "b", "k", "l", "n"], ["y", "z"]), (["l", "n"], ["y", "z"]), (["n"], ["z"])]) MK (by decide +kernel) LK.asc RY (given_none _) (by decide +kernel)).2 ["a", "b", "k"] (["a", "b", "k", "l", "n"], ["y", "z"]) (by decide +kernel) (vwB_ok (by decide +kernel))
theorem c3 : fn_piece_views [scD rowsK, .str "b", .non] = .ok (.val (.tup [.tup [.tup [.str "a", .str "k", .str "l", .str "n"], .tup [.str "x"]], .tup [.tup [.str "k", .str "l", .str "n"], .tup [.str "x", .str "y"]], .tup [.tup [.str "l", .str "n"], .tup [.str "y", .str "z"]], .tup [.tup [.str "n"], .tup [.str "z"]]]), []) :=
  (now_views (T := rowsK) (K := ["x", "y", "z"]) (ps := [["a"], ["k"], ["l"], ["n"]]) (vs := [(["a", "k", "l", "n"], ["x"]), (["k", "l", "n"], ["x", "y"]), (["l", "n"], ["y", "z"]), (["n"], ["z"])]) MK (by decide +kernel) LK.asc RB (given_none _) (by decide +kernel)).1
theorem c4 : fn_piece_views [scD rowsT, .str "a", .tup [.str "a"]] = .ok (.val (.tup []), []) :=
  (now_views (T := [kA]) (K := ["x"]) (ps := []) (vs := []) MT (by decide +kernel) (by decide +kernel) RT (given_some MT (fun r hr => by rw [List.mem_singleton.mp hr]; decide +kernel) (by decide +kernel) (by simp) RT (fun y e => by cases e; decide +kernel)) (by decide +kernel)).1
theorem c5 : fn_piece_views [scD rowsT, .str "a", .non] = .ok (.val (.tup [.tup [.tup [.str "k", .str "l"], .tup [.str "x", .str "y"]], .tup [.tup [.str "k", .str "l"], .tup [.str "x", .str "y"]]]), []) :=
  (now_views (T := rowsT) (K := ["x", "y"]) (ps := [["k"], ["l"]]) (vs := [(["k", "l"], ["x", "y"]), (["k", "l"], ["x", "y"])]) MT (by decide +kernel) LT.asc RT (given_none _) (by decide +kernel)).1
theorem c6 (a : D) : fn_Scene_of [a, .tup [.tup [.str "a", .tup [.str "x"], .str "changing"], .tup [.str "k", .tup [.str "x", .str "y"], .tup [.str "x"]], .tup [.str "l", .tup [.str "y", .str "z"], .tup [.str "y"]], .tup [.str "n", .tup [.str "z"], .tup []], .tup [.str "b", .tup [.str "x", .str "z"], .str "changing"]]] = .ok (.tmp (scD rowsK), []) := by
  have h := of_ok2 LK (us := [kA, kK, kL, kN, kB]) (by decide +kernel) a
  rw [MK.norm] at h
  exact h
theorem c7 (a : D) : fn_Scene_of [a, .tup [.tup [.str "k", .tup [.str "x", .str "y"], .tup [.str "x"]], .tup [.str "l", .tup [.str "x", .str "y"], .tup [.str "y"]], .tup [.str "a", .tup [.str "x"], .str "changing"]]] = .ok (.tmp (scD rowsT), []) := by
  have h := of_ok2 LT (us := [kK, tL, kA]) (by decide +kernel) a
  rw [MT.norm] at h
  exact h
abbrev caseIn : SV := svIf (bvNot (tst (evCall [true] fn__law_case_right [] (cvLn 2 (cvNil))))) (svRet (evC (.bl false))) (svNext)
abbrev outBody : SV := svSeq (svSet 2 (evCall [false,false] fn__law_dice [] (cvFr (evVar 0) (cvFr (evVar 1) (cvNil))))) (svFor (ivRange1 (evC (.int 4))) (gtName 3) caseIn)
theorem law_in {x s1 s3 : Slot} {d : D} (hd : Dice d) (f3 : Slot.soft s3) : ∃ d' s3', Dice d' ∧ Slot.soft s3' ∧ forLoop (gtName 3) caseIn (rangeD 0 4) [x, s1, .ow d, s3, .no, .no, .no, .no, .no] = .ok (.next, [x, s1, .ow d', s3', .no, .no, .no, .no, .no]) := by
  obtain ⟨ρ', e, d', s3', hd', f, rfl⟩ := for_all (g := gtName 3) (body := caseIn) (em := id) (fun ρ => ∃ d s3, Dice d ∧ Slot.soft s3 ∧ ρ = [x, s1, .ow d, s3, .no, .no, .no, .no, .no]) (rangeD 0 4) [x, s1, .ow d, s3, .no, .no, .no, .no, .no] ⟨d, s3, hd, f3, rfl⟩ (by
    rintro k hk ρ ⟨d, s3, hd, f3, rfl⟩
    obtain ⟨d', e, hd'⟩ := case_right hd
    refine ⟨[x, s1, .ow d', .sh k, .no, .no, .no, .no, .no], ?_, d', .sh k, hd', soft_sh _, rfl⟩
    simp -implicitDefEqProofs [turn, storeAt_soft, f3, e])
  rw [List.map_id] at e
  exact ⟨d', s3', hd', f, e⟩
theorem law_out (ns : List Int) (n : Nat) : ∃ s1 s2 s3, Slot.soft s1 ∧ Slot.soft s2 ∧ Slot.soft s3 ∧ forLoop (gtName 1) outBody (rangeD 0 n) [.sh (.scr ns), .no, .no, .no, .no, .no, .no, .no, .no] = .ok (.next, [.sh (.scr ns), s1, s2, s3, .no, .no, .no, .no, .no]) := by
  obtain ⟨ρ', e, s1, s2, s3, f1, f2, f3, rfl⟩ := for_all (g := gtName 1) (body := outBody) (em := fun i : Nat => D.int (0 + (i : Int))) (fun ρ => ∃ s1 s2 s3, Slot.soft s1 ∧ Slot.soft s2 ∧ Slot.soft s3 ∧ ρ = [.sh (.scr ns), s1, s2, s3, .no, .no, .no, .no, .no]) (List.range n) [.sh (.scr ns), .no, .no, .no, .no, .no, .no, .no, .no] ⟨_, _, _, soft_no, soft_no, soft_no, rfl⟩ (by
    rintro i hi ρ ⟨s1, s2, s3, f1, f2, f3, rfl⟩
    obtain ⟨d, e1, hd⟩ := law_dice ns i
    obtain ⟨d', s3', hd', f3', e2⟩ := law_in (x := .sh (.scr ns)) (s1 := .sh (.int (i : Int))) hd f3
    refine ⟨[.sh (.scr ns), .sh (.int (i : Int)), .ow d', s3', .no, .no, .no, .no, .no], ?_, _, _, _, soft_sh _, soft_ow _, f3', rfl⟩
    have f62 : few62 4 = true := rfl
    simp -implicitDefEqProofs [turn, outBody, storeAt_soft, f1, f2, e1, e2, f62])
  exact ⟨s1, s2, s3, f1, f2, f3, e⟩
theorem law_true (ns : List Int) : fn_law [.scr ns] = .ok (.val (.bl true), []) := by
  obtain ⟨m, n, e1, e2, hn⟩ := spots ns.length
  obtain ⟨s1, s2, s3, f1, f2, f3, e3⟩ := law_out ns n
  have f62 : few62 (n : Int) = true := by
    unfold few62
    simp only [Bool.and_eq_true, decide_eq_true_eq]
    omega
  have k1 : dEqB (.lst [.tup [.str "b", .str "k", .str "l", .str "n"], .tup [.str "a", .str "b", .str "k", .str "l", .str "n"]]) (.lst [.tup [.str "b", .str "k", .str "l", .str "n"], .tup [.str "a", .str "b", .str "k", .str "l", .str "n"]]) = some true := by decide +kernel
  have k2 : dEqB (.tup [.tup [.tup [.str "a", .str "k", .str "l", .str "n"], .tup [.str "x"]], .tup [.tup [.str "k", .str "l", .str "n"], .tup [.str "x", .str "y"]], .tup [.tup [.str "l", .str "n"], .tup [.str "y", .str "z"]], .tup [.tup [.str "n"], .tup [.str "z"]]]) (.tup [.tup [.tup [.str "a", .str "k", .str "l", .str "n"], .tup [.str "x"]], .tup [.tup [.str "k", .str "l", .str "n"], .tup [.str "x", .str "y"]], .tup [.tup [.str "l", .str "n"], .tup [.str "y", .str "z"]], .tup [.tup [.str "n"], .tup [.str "z"]]]) = some true := by decide +kernel
  have k3 : dEqB (.tup [.tup [.tup [.str "k", .str "l"], .tup [.str "x", .str "y"]], .tup [.tup [.str "k", .str "l"], .tup [.str "x", .str "y"]]]) (.tup [.tup [.tup [.str "k", .str "l"], .tup [.str "x", .str "y"]], .tup [.tup [.str "k", .str "l"], .tup [.str "x", .str "y"]]]) = some true := by decide +kernel
  have r1 : ∀ d : D, dTRep (.tup [d]) (.int 2) = some (.val (.tup [d, d])) := fun _ => rfl
  have hl : dLen [.scr ns] = some (.val (.int ns.length)) := by simp
  have l1 : ∀ a b c : D, dSl (.lst [a, b, c]) none (some 2) = some (.tmp (.lst [a, b])) := fun _ _ _ => rfl
  have l2 : ∀ a b c : D, dIx (.lst [a, b, c]) (.int 2) = some (.val c) := fun _ _ _ => rfl
  have l3 : ∀ a b c d e : D, dAdd (.tup [a, b, c, d]) (.tup [e]) = some (.val (.tup [a, b, c, d, e])) := fun _ _ _ _ _ => rfl
  have l4 : ∀ a b c d : D, dAdd (.lst [a, b, c]) (.lst [d]) = some (.tmp (.lst [a, b, c, d])) := fun _ _ _ _ => rfl
  have u1 := c1; have u2 := c2; have u3 := c3; have u4 := c4; have u5 := c5; have u6 := c6; have u7 := c7
  unfold scD at *
  generalize scF rowsK = FK at *
  generalize scF rowsT = FT at *
  simp -implicitDefEqProofs [fn_law, fnOf_app, b_law, putKw, e1, e2, f62, e3, hl, u1, u2, u3, u4, u5, u6, u7, k1, k2, k3, r1, l1, l2, l3, l4]
end Lw
set_option Elab.async false
set_option linter.all false
set_option maxRecDepth 100000
set_option maxHeartbeats 4000000
namespace Lw
open PySem PySem.Spec PyProof.Rows L2 Ft
structure Al (K : PySem.W.Frag) (mg : Str → Option Value) (cls atm : Nat → Addr) : Prop where
  T : Tx K mg cls
  m_Scenedd_containsdd : MFn K (cls 0) "__contains__" "Scene.__contains__" s_Scenedd_containsdd
  d_is_name : DFn K mg "is_name" s_is_name
  d_told_dict : DFn K mg "told_dict" s_told_dict
  d_ascending_names : DFn K mg "ascending_names" s_ascending_names
  d_columns_told : DFn K mg "columns_told" s_columns_told
  d_key_told : DFn K mg "key_told" s_key_told
  m_Scenedd_initdd : KFn K (cls 0) "Scene.__init__" s_Scenedd_initdd
  d_is_line : DFn K mg "is_line" s_is_line
  d_scene_in : DFn K mg "scene_in" s_scene_in
  m_Scene_of : CFn K (cls 0) "of" "Scene.of" s_Scene_of
  d__law_dice : DFn K mg "_law_dice" s__law_dice
  d_require_scene : DFn K mg "require_scene" s_require_scene
  d_is_columns : DFn K mg "is_columns" s_is_columns
  m_Scene_columns : PFn K (cls 0) "columns" "Scene.columns" s_Scene_columns
  d_are_columns : DFn K mg "are_columns" s_are_columns
  d_is_role_in : DFn K mg "is_role_in" s_is_role_in
  d_require_role : DFn K mg "require_role" s_require_role
  m_Scene_tables : PFn K (cls 0) "tables" "Scene.tables" s_Scene_tables
  d_are_tables : DFn K mg "are_tables" s_are_tables
  d_require_tables : DFn K mg "require_tables" s_require_tables
  d_given_tables : DFn K mg "given_tables" s_given_tables
  d_closing_steps : DFn K mg "closing_steps" s_closing_steps
  d_closure_in : DFn K mg "closure_in" s_closure_in
  d_role_columns : DFn K mg "role_columns" s_role_columns
  d_joined_to : DFn K mg "joined_to" s_joined_to
  d_pieces_in : DFn K mg "pieces_in" s_pieces_in
  d_columns_inside : DFn K mg "columns_inside" s_columns_inside
  d_reached_in : DFn K mg "reached_in" s_reached_in
  d_view_of_piece : DFn K mg "view_of_piece" s_view_of_piece
  d_closed_piece : DFnK1 K mg "closed_piece" s_closed_piece "tables"
  d_piece_views_in : DFn K mg "piece_views_in" s_piece_views_in
  d_piece_views : DFnK1 K mg "piece_views" s_piece_views "tables"
  d__law_roll : DFn K mg "_law_roll" s__law_roll
  d__law_mixed : DFn K mg "_law_mixed" s__law_mixed
  d__law_words : DFn K mg "_law_words" s__law_words
  d__law_some : DFn K mg "_law_some" s__law_some
  d__law_kind : DFn K mg "_law_kind" s__law_kind
  d__law_scene : DFn K mg "_law_scene" s__law_scene
  d__law_closure : DFn K mg "_law_closure" s__law_closure
  d__law_role_columns : DFn K mg "_law_role_columns" s__law_role_columns
  d__law_groups : DFn K mg "_law_groups" s__law_groups
  d__law_scene_made : DFn K mg "_law_scene_made" s__law_scene_made
  d__law_changing : DFn K mg "_law_changing" s__law_changing
  d__law_pick : DFn K mg "_law_pick" s__law_pick
  d__law_columns : DFn K mg "_law_columns" s__law_columns
  d__law_door : DFn K mg "_law_door" s__law_door
  d__law_role : DFn K mg "_law_role" s__law_role
  d__law_given : DFn K mg "_law_given" s__law_given
  d__law_lacking : DFn K mg "_law_lacking" s__law_lacking
  d__law_piece_view : DFn K mg "_law_piece_view" s__law_piece_view
  d_pieces : DFnK1 K mg "pieces" s_pieces "tables"
  d__law_case_right : DFn K mg "_law_case_right" s__law_case_right
  d_law : DFn K mg "law" s_law
  a_0 : atm 0 = cls 0
theorem chain {P : Program} {w : World} {K : PySem.W.Frag} {mg : Str → Option Value} {cls atm : Nat → Addr} (A : Al K mg cls atm) : ∃ f fd, mg "law" = some (.ref f) ∧ (∀ (s : Shared) (u : Value), BindsTo s fd ⟨[u], []⟩ [("script", u)]) ∧ ∀ base : Heap, FnOk P w K mg base CX0 11 f fd ["script"] (spF (Gx K cls atm) [false] fn_law) := by
  have T := A.T
  obtain ⟨f_Scenedd_containsdd, fd_Scenedd_containsdd, F_Scenedd_containsdd, g_Scenedd_containsdd⟩ := A.m_Scenedd_containsdd
  obtain ⟨f_is_name, fd_is_name, F_is_name, g_is_name⟩ := A.d_is_name
  obtain ⟨f_told_dict, fd_told_dict, F_told_dict, g_told_dict⟩ := A.d_told_dict
  obtain ⟨f_ascending_names, fd_ascending_names, F_ascending_names, g_ascending_names⟩ := A.d_ascending_names
  obtain ⟨f_columns_told, fd_columns_told, F_columns_told, g_columns_told⟩ := A.d_columns_told
  obtain ⟨f_key_told, fd_key_told, F_key_told, g_key_told⟩ := A.d_key_told
  obtain ⟨f_Scenedd_initdd, fd_Scenedd_initdd, F_Scenedd_initdd, g_Scenedd_initdd⟩ := A.m_Scenedd_initdd
  obtain ⟨f_is_line, fd_is_line, F_is_line, g_is_line⟩ := A.d_is_line
  obtain ⟨f_scene_in, fd_scene_in, F_scene_in, g_scene_in⟩ := A.d_scene_in
  obtain ⟨mc_Scene_of, p_Scene_of, f_Scene_of, fd_Scene_of, F_Scene_of, r_Scene_of, g_Scene_of⟩ := A.m_Scene_of
  obtain ⟨f__law_dice, fd__law_dice, F__law_dice, g__law_dice⟩ := A.d__law_dice
  obtain ⟨f_require_scene, fd_require_scene, F_require_scene, g_require_scene⟩ := A.d_require_scene
  obtain ⟨f_is_columns, fd_is_columns, F_is_columns, g_is_columns⟩ := A.d_is_columns
  obtain ⟨p_Scene_columns, f_Scene_columns, fd_Scene_columns, F_Scene_columns, g_Scene_columns⟩ := A.m_Scene_columns
  obtain ⟨f_are_columns, fd_are_columns, F_are_columns, g_are_columns⟩ := A.d_are_columns
  obtain ⟨f_is_role_in, fd_is_role_in, F_is_role_in, g_is_role_in⟩ := A.d_is_role_in
  obtain ⟨f_require_role, fd_require_role, F_require_role, g_require_role⟩ := A.d_require_role
  obtain ⟨p_Scene_tables, f_Scene_tables, fd_Scene_tables, F_Scene_tables, g_Scene_tables⟩ := A.m_Scene_tables
  obtain ⟨f_are_tables, fd_are_tables, F_are_tables, g_are_tables⟩ := A.d_are_tables
  obtain ⟨f_require_tables, fd_require_tables, F_require_tables, g_require_tables⟩ := A.d_require_tables
  obtain ⟨f_given_tables, fd_given_tables, F_given_tables, g_given_tables⟩ := A.d_given_tables
  obtain ⟨f_closing_steps, fd_closing_steps, F_closing_steps, g_closing_steps⟩ := A.d_closing_steps
  obtain ⟨f_closure_in, fd_closure_in, F_closure_in, g_closure_in⟩ := A.d_closure_in
  obtain ⟨f_role_columns, fd_role_columns, F_role_columns, g_role_columns⟩ := A.d_role_columns
  obtain ⟨f_joined_to, fd_joined_to, F_joined_to, g_joined_to⟩ := A.d_joined_to
  obtain ⟨f_pieces_in, fd_pieces_in, F_pieces_in, g_pieces_in⟩ := A.d_pieces_in
  obtain ⟨f_columns_inside, fd_columns_inside, F_columns_inside, g_columns_inside⟩ := A.d_columns_inside
  obtain ⟨f_reached_in, fd_reached_in, F_reached_in, g_reached_in⟩ := A.d_reached_in
  obtain ⟨f_view_of_piece, fd_view_of_piece, F_view_of_piece, g_view_of_piece⟩ := A.d_view_of_piece
  obtain ⟨f_closed_piece, fd_closed_piece, F_closed_piece, g_closed_piece⟩ := A.d_closed_piece
  obtain ⟨f_piece_views_in, fd_piece_views_in, F_piece_views_in, g_piece_views_in⟩ := A.d_piece_views_in
  obtain ⟨f_piece_views, fd_piece_views, F_piece_views, g_piece_views⟩ := A.d_piece_views
  obtain ⟨f__law_roll, fd__law_roll, F__law_roll, g__law_roll⟩ := A.d__law_roll
  obtain ⟨f__law_mixed, fd__law_mixed, F__law_mixed, g__law_mixed⟩ := A.d__law_mixed
  obtain ⟨f__law_words, fd__law_words, F__law_words, g__law_words⟩ := A.d__law_words
  obtain ⟨f__law_some, fd__law_some, F__law_some, g__law_some⟩ := A.d__law_some
  obtain ⟨f__law_kind, fd__law_kind, F__law_kind, g__law_kind⟩ := A.d__law_kind
  obtain ⟨f__law_scene, fd__law_scene, F__law_scene, g__law_scene⟩ := A.d__law_scene
  obtain ⟨f__law_closure, fd__law_closure, F__law_closure, g__law_closure⟩ := A.d__law_closure
  obtain ⟨f__law_role_columns, fd__law_role_columns, F__law_role_columns, g__law_role_columns⟩ := A.d__law_role_columns
  obtain ⟨f__law_groups, fd__law_groups, F__law_groups, g__law_groups⟩ := A.d__law_groups
  obtain ⟨f__law_scene_made, fd__law_scene_made, F__law_scene_made, g__law_scene_made⟩ := A.d__law_scene_made
  obtain ⟨f__law_changing, fd__law_changing, F__law_changing, g__law_changing⟩ := A.d__law_changing
  obtain ⟨f__law_pick, fd__law_pick, F__law_pick, g__law_pick⟩ := A.d__law_pick
  obtain ⟨f__law_columns, fd__law_columns, F__law_columns, g__law_columns⟩ := A.d__law_columns
  obtain ⟨f__law_door, fd__law_door, F__law_door, g__law_door⟩ := A.d__law_door
  obtain ⟨f__law_role, fd__law_role, F__law_role, g__law_role⟩ := A.d__law_role
  obtain ⟨f__law_given, fd__law_given, F__law_given, g__law_given⟩ := A.d__law_given
  obtain ⟨f__law_lacking, fd__law_lacking, F__law_lacking, g__law_lacking⟩ := A.d__law_lacking
  obtain ⟨f__law_piece_view, fd__law_piece_view, F__law_piece_view, g__law_piece_view⟩ := A.d__law_piece_view
  obtain ⟨f_pieces, fd_pieces, F_pieces, g_pieces⟩ := A.d_pieces
  obtain ⟨f__law_case_right, fd__law_case_right, F__law_case_right, g__law_case_right⟩ := A.d__law_case_right
  obtain ⟨f_law, fd_law, F_law, g_law⟩ := A.d_law
  refine ⟨_, _, g_law, fun_law F_law (fun _ _ _ _ _ _ _ => rfl), fun base => ?_⟩
  have M_Scenedd_containsdd : MetOk P w K mg base (Gx K cls atm) 0 "__contains__" 1 [false, false] fn_Scenedd_containsdd := ⟨nmOf_other (by decide +kernel) (by decide +kernel), T.i_Scene, f_Scenedd_containsdd, fd_Scenedd_containsdd, ["self", "value"], g_Scenedd_containsdd, ok_Scenedd_containsdd T F_Scenedd_containsdd, F_Scenedd_containsdd.binds (ps := ["self", "value"]) (fun _ _ _ _ _ _ us hl => match us, hl with | [_, _], _ => rfl)⟩
  have D_is_name : DefOk P w K mg base (Gx K cls atm) "is_name" 1 [false] fn_is_name [] := ⟨f_is_name, fd_is_name, ["value"], [], [], ok_is_name T F_is_name, g_is_name, F_is_name.kp, F_is_name.binds (ps := ["value"]) (fun _ _ _ _ _ _ us hl => match us, hl with | [_], _ => rfl), .nil, fun _ => .nil⟩
  have D_told_dict : DefOk P w K mg base (Gx K cls atm) "told_dict" 2 [false] fn_told_dict [] := ⟨f_told_dict, fd_told_dict, ["value"], [], [], ok_told_dict T D_is_name F_told_dict, g_told_dict, F_told_dict.kp, F_told_dict.binds (ps := ["value"]) (fun _ _ _ _ _ _ us hl => match us, hl with | [_], _ => rfl), .nil, fun _ => .nil⟩
  have D_ascending_names : DefOk P w K mg base (Gx K cls atm) "ascending_names" 2 [false] fn_ascending_names [] := ⟨f_ascending_names, fd_ascending_names, ["value"], [], [], ok_ascending_names T D_is_name F_ascending_names, g_ascending_names, F_ascending_names.kp, F_ascending_names.binds (ps := ["value"]) (fun _ _ _ _ _ _ us hl => match us, hl with | [_], _ => rfl), .nil, fun _ => .nil⟩
  have D_columns_told : DefOk P w K mg base (Gx K cls atm) "columns_told" 3 [false] fn_columns_told [] := ⟨f_columns_told, fd_columns_told, ["value"], [], [], ok_columns_told T D_ascending_names F_columns_told, g_columns_told, F_columns_told.kp, F_columns_told.binds (ps := ["value"]) (fun _ _ _ _ _ _ us hl => match us, hl with | [_], _ => rfl), .nil, fun _ => .nil⟩
  have D_key_told : DefOk P w K mg base (Gx K cls atm) "key_told" 3 [false, false] fn_key_told [] := ⟨f_key_told, fd_key_told, ["columns", "value"], [], [], ok_key_told T D_ascending_names F_key_told, g_key_told, F_key_told.kp, F_key_told.binds (ps := ["columns", "value"]) (fun _ _ _ _ _ _ us hl => match us, hl with | [_, _], _ => rfl), .nil, fun _ => .nil⟩
  have M_Scenedd_initdd : MakOk P w K mg base (Gx K cls atm) 0 "Scene" 4 3 fn_Scenedd_initdd ["changing", "fixed", "keyed"] := ⟨⟨f_Scenedd_initdd, fd_Scenedd_initdd, ["self", "changing", "fixed", "keyed"], _, g_Scenedd_initdd, ok_Scenedd_initdd T D_columns_told D_key_told D_told_dict F_Scenedd_initdd, kbn_mk F_Scenedd_initdd (fun kV doc pm an cdv ct us ws h1 h2 => match us, ws, h1, h2 with | [_], [_, _, _], _, _ => rfl)⟩, T.c_Scene, rfl⟩
  have D_is_line : DefOk P w K mg base (Gx K cls atm) "is_line" 2 [false] fn_is_line [] := ⟨f_is_line, fd_is_line, ["value"], [], [], ok_is_line T D_is_name F_is_line, g_is_line, F_is_line.kp, F_is_line.binds (ps := ["value"]) (fun _ _ _ _ _ _ us hl => match us, hl with | [_], _ => rfl), .nil, fun _ => .nil⟩
  have D_scene_in : DefOk P w K mg base (Gx K cls atm) "scene_in" 6 [false] fn_scene_in [] := ⟨f_scene_in, fd_scene_in, ["lines"], [], [], ok_scene_in T M_Scenedd_initdd D_is_line F_scene_in, g_scene_in, F_scene_in.kp, F_scene_in.binds (ps := ["lines"]) (fun _ _ _ _ _ _ us hl => match us, hl with | [_], _ => rfl), .nil, fun _ => .nil⟩
  have M_Scene_of : CmtOk P w K mg base (Gx K cls atm) 0 "of" 7 fn_Scene_of 1 := ⟨⟨mc_Scene_of, p_Scene_of, f_Scene_of, fd_Scene_of, ["cls", "lines"], r_Scene_of, g_Scene_of, ok_Scene_of T D_scene_in F_Scene_of, F_Scene_of.binds (ps := ["cls", "lines"]) (fun _ _ _ _ _ _ us hl => match us, hl with | [_, _], _ => rfl)⟩, A.a_0⟩
  have D__law_dice : DefOk P w K mg base (Gx K cls atm) "_law_dice" 1 [false, false] fn__law_dice [] := ⟨f__law_dice, fd__law_dice, ["script", "spot"], [], [], ok__law_dice T F__law_dice, g__law_dice, F__law_dice.kp, F__law_dice.binds (ps := ["script", "spot"]) (fun _ _ _ _ _ _ us hl => match us, hl with | [_, _], _ => rfl), .nil, fun _ => .nil⟩
  have D_require_scene : DefOk P w K mg base (Gx K cls atm) "require_scene" 1 [false] fn_require_scene [] := ⟨f_require_scene, fd_require_scene, ["scene"], [], [], ok_require_scene T F_require_scene, g_require_scene, F_require_scene.kp, F_require_scene.binds (ps := ["scene"]) (fun _ _ _ _ _ _ us hl => match us, hl with | [_], _ => rfl), .nil, fun _ => .nil⟩
  have D_is_columns : DefOk P w K mg base (Gx K cls atm) "is_columns" 2 [false] fn_is_columns [] := ⟨f_is_columns, fd_is_columns, ["value"], [], [], ok_is_columns T D_is_name F_is_columns, g_is_columns, F_is_columns.kp, F_is_columns.binds (ps := ["value"]) (fun _ _ _ _ _ _ us hl => match us, hl with | [_], _ => rfl), .nil, fun _ => .nil⟩
  have M_Scene_columns : PrpOk P w K mg base (Gx K cls atm) 0 "columns" 1 fn_Scene_columns := ⟨T.i_Scene, p_Scene_columns, f_Scene_columns, fd_Scene_columns, ["self"], g_Scene_columns, ok_Scene_columns T F_Scene_columns, F_Scene_columns.binds (ps := ["self"]) (fun _ _ _ _ _ _ us hl => match us, hl with | [_], _ => rfl)⟩
  have D_are_columns : DefOk P w K mg base (Gx K cls atm) "are_columns" 3 [false, false] fn_are_columns [] := ⟨f_are_columns, fd_are_columns, ["scene", "value"], [], [], ok_are_columns T M_Scene_columns D_is_columns F_are_columns, g_are_columns, F_are_columns.kp, F_are_columns.binds (ps := ["scene", "value"]) (fun _ _ _ _ _ _ us hl => match us, hl with | [_, _], _ => rfl), .nil, fun _ => .nil⟩
  have D_is_role_in : DefOk P w K mg base (Gx K cls atm) "is_role_in" 4 [false, false] fn_is_role_in [] := ⟨f_is_role_in, fd_is_role_in, ["scene", "value"], [], [], ok_is_role_in T D_are_columns F_is_role_in, g_is_role_in, F_is_role_in.kp, F_is_role_in.binds (ps := ["scene", "value"]) (fun _ _ _ _ _ _ us hl => match us, hl with | [_, _], _ => rfl), .nil, fun _ => .nil⟩
  have D_require_role : DefOk P w K mg base (Gx K cls atm) "require_role" 5 [false, false] fn_require_role [] := ⟨f_require_role, fd_require_role, ["scene", "role"], [], [], ok_require_role T D_is_role_in F_require_role, g_require_role, F_require_role.kp, F_require_role.binds (ps := ["scene", "role"]) (fun _ _ _ _ _ _ us hl => match us, hl with | [_, _], _ => rfl), .nil, fun _ => .nil⟩
  have M_Scene_tables : PrpOk P w K mg base (Gx K cls atm) 0 "tables" 1 fn_Scene_tables := ⟨T.i_Scene, p_Scene_tables, f_Scene_tables, fd_Scene_tables, ["self"], g_Scene_tables, ok_Scene_tables T F_Scene_tables, F_Scene_tables.binds (ps := ["self"]) (fun _ _ _ _ _ _ us hl => match us, hl with | [_], _ => rfl)⟩
  have D_are_tables : DefOk P w K mg base (Gx K cls atm) "are_tables" 3 [false, false] fn_are_tables [] := ⟨f_are_tables, fd_are_tables, ["scene", "value"], [], [], ok_are_tables T M_Scenedd_containsdd D_is_columns F_are_tables, g_are_tables, F_are_tables.kp, F_are_tables.binds (ps := ["scene", "value"]) (fun _ _ _ _ _ _ us hl => match us, hl with | [_, _], _ => rfl), .nil, fun _ => .nil⟩
  have D_require_tables : DefOk P w K mg base (Gx K cls atm) "require_tables" 4 [false, false] fn_require_tables [] := ⟨f_require_tables, fd_require_tables, ["scene", "tables"], [], [], ok_require_tables T D_are_tables F_require_tables, g_require_tables, F_require_tables.kp, F_require_tables.binds (ps := ["scene", "tables"]) (fun _ _ _ _ _ _ us hl => match us, hl with | [_, _], _ => rfl), .nil, fun _ => .nil⟩
  have D_given_tables : DefOk P w K mg base (Gx K cls atm) "given_tables" 5 [false, false, false] fn_given_tables [] := ⟨f_given_tables, fd_given_tables, ["scene", "role", "tables"], [], [], ok_given_tables T M_Scene_tables D_require_tables F_given_tables, g_given_tables, F_given_tables.kp, F_given_tables.binds (ps := ["scene", "role", "tables"]) (fun _ _ _ _ _ _ us hl => match us, hl with | [_, _, _], _ => rfl), .nil, fun _ => .nil⟩
  have D_closing_steps : DefOk P w K mg base (Gx K cls atm) "closing_steps" 1 [false, false, false] fn_closing_steps [] := ⟨f_closing_steps, fd_closing_steps, ["scene", "columns", "tables"], [], [], ok_closing_steps T F_closing_steps, g_closing_steps, F_closing_steps.kp, F_closing_steps.binds (ps := ["scene", "columns", "tables"]) (fun _ _ _ _ _ _ us hl => match us, hl with | [_, _, _], _ => rfl), .nil, fun _ => .nil⟩
  have D_closure_in : DefOk P w K mg base (Gx K cls atm) "closure_in" 2 [false, false, false] fn_closure_in [] := ⟨f_closure_in, fd_closure_in, ["scene", "columns", "tables"], [], [], ok_closure_in T D_closing_steps F_closure_in, g_closure_in, F_closure_in.kp, F_closure_in.binds (ps := ["scene", "columns", "tables"]) (fun _ _ _ _ _ _ us hl => match us, hl with | [_, _, _], _ => rfl), .nil, fun _ => .nil⟩
  have D_role_columns : DefOk P w K mg base (Gx K cls atm) "role_columns" 1 [false, false] fn_role_columns [] := ⟨f_role_columns, fd_role_columns, ["scene", "role"], [], [], ok_role_columns T F_role_columns, g_role_columns, F_role_columns.kp, F_role_columns.binds (ps := ["scene", "role"]) (fun _ _ _ _ _ _ us hl => match us, hl with | [_, _], _ => rfl), .nil, fun _ => .nil⟩
  have D_joined_to : DefOk P w K mg base (Gx K cls atm) "joined_to" 1 [false, false, false] fn_joined_to [] := ⟨f_joined_to, fd_joined_to, ["table", "tables", "outside"], [], [], ok_joined_to T F_joined_to, g_joined_to, F_joined_to.kp, F_joined_to.binds (ps := ["table", "tables", "outside"]) (fun _ _ _ _ _ _ us hl => match us, hl with | [_, _, _], _ => rfl), .nil, fun _ => .nil⟩
  have D_pieces_in : DefOk P w K mg base (Gx K cls atm) "pieces_in" 3 [false, false, false] fn_pieces_in [] := ⟨f_pieces_in, fd_pieces_in, ["scene", "role", "tables"], [], [], ok_pieces_in T D_closure_in D_joined_to D_role_columns F_pieces_in, g_pieces_in, F_pieces_in.kp, F_pieces_in.binds (ps := ["scene", "role", "tables"]) (fun _ _ _ _ _ _ us hl => match us, hl with | [_, _, _], _ => rfl), .nil, fun _ => .nil⟩
  have D_columns_inside : DefOk P w K mg base (Gx K cls atm) "columns_inside" 1 [false, false, false] fn_columns_inside [] := ⟨f_columns_inside, fd_columns_inside, ["scene", "inside", "piece"], [], [], ok_columns_inside T F_columns_inside, g_columns_inside, F_columns_inside.kp, F_columns_inside.binds (ps := ["scene", "inside", "piece"]) (fun _ _ _ _ _ _ us hl => match us, hl with | [_, _, _], _ => rfl), .nil, fun _ => .nil⟩
  have D_reached_in : DefOk P w K mg base (Gx K cls atm) "reached_in" 2 [false, false, false] fn_reached_in [] := ⟨f_reached_in, fd_reached_in, ["scene", "columns", "tables"], [], [], ok_reached_in T D_closing_steps F_reached_in, g_reached_in, F_reached_in.kp, F_reached_in.binds (ps := ["scene", "columns", "tables"]) (fun _ _ _ _ _ _ us hl => match us, hl with | [_, _, _], _ => rfl), .nil, fun _ => .nil⟩
  have D_view_of_piece : DefOk P w K mg base (Gx K cls atm) "view_of_piece" 3 [false, false, false, false] fn_view_of_piece [] := ⟨f_view_of_piece, fd_view_of_piece, ["scene", "inside", "tables", "piece"], [], [], ok_view_of_piece T D_columns_inside D_reached_in F_view_of_piece, g_view_of_piece, F_view_of_piece.kp, F_view_of_piece.binds (ps := ["scene", "inside", "tables", "piece"]) (fun _ _ _ _ _ _ us hl => match us, hl with | [_, _, _, _], _ => rfl), .nil, fun _ => .nil⟩
  have N_closed_piece : DkwOk P w K mg base (Gx K cls atm) "closed_piece" 6 3 [false, false, false, false] fn_closed_piece ["tables"] := ⟨f_closed_piece, fd_closed_piece, ["scene", "role", "piece", "tables"], _, ok_closed_piece T D_closure_in D_given_tables D_pieces_in D_require_role D_require_scene D_role_columns D_view_of_piece F_closed_piece, g_closed_piece, F_closed_piece.kp, kbn_any F_closed_piece (fun kV doc pm an cdv ct us ws h1 h2 => match us, ws, h1, h2 with | [_, _, _], [_], _, _ => rfl), rfl⟩
  have D_closed_piece : DefOk P w K mg base (Gx K cls atm) "closed_piece" 6 [false, false, false, false] fn_closed_piece [.non] := by
    obtain ⟨ds, hv, hb⟩ := F_closed_piece.binds0 (ps := ["scene", "role", "piece", "tables"]) 3 (fun h => nomatch h) rfl (fun D doc pm an cdv ct us ks h1 h2 => match us, ks, h1, h2 with | [_, _, _], [_], _, _ => ⟨_, _, _, _, _, _, rfl, rfl, rfl⟩)
    exact ⟨f_closed_piece, fd_closed_piece, ["scene", "role", "piece", "tables"], ds, [.non], ok_closed_piece T D_closure_in D_given_tables D_pieces_in D_require_role D_require_scene D_role_columns D_view_of_piece F_closed_piece, g_closed_piece, F_closed_piece.kp, hb, hv, fun _ => .cons .non .nil⟩
  have D_piece_views_in : DefOk P w K mg base (Gx K cls atm) "piece_views_in" 4 [false, false, false] fn_piece_views_in [] := ⟨f_piece_views_in, fd_piece_views_in, ["scene", "role", "tables"], [], [], ok_piece_views_in T D_closure_in D_pieces_in D_role_columns D_view_of_piece F_piece_views_in, g_piece_views_in, F_piece_views_in.kp, F_piece_views_in.binds (ps := ["scene", "role", "tables"]) (fun _ _ _ _ _ _ us hl => match us, hl with | [_, _, _], _ => rfl), .nil, fun _ => .nil⟩
  have N_piece_views : DkwOk P w K mg base (Gx K cls atm) "piece_views" 6 2 [false, false, false] fn_piece_views ["tables"] := ⟨f_piece_views, fd_piece_views, ["scene", "role", "tables"], _, ok_piece_views T D_given_tables D_piece_views_in D_require_role D_require_scene F_piece_views, g_piece_views, F_piece_views.kp, kbn_any F_piece_views (fun kV doc pm an cdv ct us ws h1 h2 => match us, ws, h1, h2 with | [_, _], [_], _, _ => rfl), rfl⟩
  have D_piece_views : DefOk P w K mg base (Gx K cls atm) "piece_views" 6 [false, false, false] fn_piece_views [.non] := by
    obtain ⟨ds, hv, hb⟩ := F_piece_views.binds0 (ps := ["scene", "role", "tables"]) 2 (fun h => nomatch h) rfl (fun D doc pm an cdv ct us ks h1 h2 => match us, ks, h1, h2 with | [_, _], [_], _, _ => ⟨_, _, _, _, _, _, rfl, rfl, rfl⟩)
    exact ⟨f_piece_views, fd_piece_views, ["scene", "role", "tables"], ds, [.non], ok_piece_views T D_given_tables D_piece_views_in D_require_role D_require_scene F_piece_views, g_piece_views, F_piece_views.kp, hb, hv, fun _ => .cons .non .nil⟩
  have D__law_roll : DefOk P w K mg base (Gx K cls atm) "_law_roll" 1 [true, false] fn__law_roll [] := ⟨f__law_roll, fd__law_roll, ["dice", "upto"], [], [], ok__law_roll T F__law_roll, g__law_roll, F__law_roll.kp, F__law_roll.binds (ps := ["dice", "upto"]) (fun _ _ _ _ _ _ us hl => match us, hl with | [_, _], _ => rfl), .nil, fun _ => .nil⟩
  have D__law_mixed : DefOk P w K mg base (Gx K cls atm) "_law_mixed" 2 [true, false] fn__law_mixed [] := ⟨f__law_mixed, fd__law_mixed, ["dice", "items"], [], [], ok__law_mixed T D__law_roll F__law_mixed, g__law_mixed, F__law_mixed.kp, F__law_mixed.binds (ps := ["dice", "items"]) (fun _ _ _ _ _ _ us hl => match us, hl with | [_, _], _ => rfl), .nil, fun _ => .nil⟩
  have D__law_words : DefOk P w K mg base (Gx K cls atm) "_law_words" 3 [true, false] fn__law_words [] := ⟨f__law_words, fd__law_words, ["dice", "upto"], [], [], ok__law_words T D__law_mixed F__law_words, g__law_words, F__law_words.kp, F__law_words.binds (ps := ["dice", "upto"]) (fun _ _ _ _ _ _ us hl => match us, hl with | [_, _], _ => rfl), .nil, fun _ => .nil⟩
  have D__law_some : DefOk P w K mg base (Gx K cls atm) "_law_some" 3 [true, false, false, false] fn__law_some [] := ⟨f__law_some, fd__law_some, ["dice", "items", "least", "most"], [], [], ok__law_some T D__law_mixed D__law_roll F__law_some, g__law_some, F__law_some.kp, F__law_some.binds (ps := ["dice", "items", "least", "most"]) (fun _ _ _ _ _ _ us hl => match us, hl with | [_, _, _, _], _ => rfl), .nil, fun _ => .nil⟩
  have D__law_kind : DefOk P w K mg base (Gx K cls atm) "_law_kind" 4 [true, false, false] fn__law_kind [] := ⟨f__law_kind, fd__law_kind, ["dice", "columns", "still"], [], [], ok__law_kind T D__law_roll D__law_some F__law_kind, g__law_kind, F__law_kind.kp, F__law_kind.binds (ps := ["dice", "columns", "still"]) (fun _ _ _ _ _ _ us hl => match us, hl with | [_, _, _], _ => rfl), .nil, fun _ => .nil⟩
  have D__law_scene : DefOk P w K mg base (Gx K cls atm) "_law_scene" 5 [true, false, false, false] fn__law_scene [] := ⟨f__law_scene, fd__law_scene, ["dice", "most_tables", "most_columns", "still"], [], [], ok__law_scene T D__law_kind D__law_mixed D__law_roll D__law_some D__law_words F__law_scene, g__law_scene, F__law_scene.kp, F__law_scene.binds (ps := ["dice", "most_tables", "most_columns", "still"]) (fun _ _ _ _ _ _ us hl => match us, hl with | [_, _, _, _], _ => rfl), .nil, fun _ => .nil⟩
  have D__law_closure : DefOk P w K mg base (Gx K cls atm) "_law_closure" 1 [false, false, false] fn__law_closure [] := ⟨f__law_closure, fd__law_closure, ["scene", "columns", "names"], [], [], ok__law_closure T F__law_closure, g__law_closure, F__law_closure.kp, F__law_closure.binds (ps := ["scene", "columns", "names"]) (fun _ _ _ _ _ _ us hl => match us, hl with | [_, _, _], _ => rfl), .nil, fun _ => .nil⟩
  have D__law_role_columns : DefOk P w K mg base (Gx K cls atm) "_law_role_columns" 1 [false, false] fn__law_role_columns [] := ⟨f__law_role_columns, fd__law_role_columns, ["scene", "role"], [], [], ok__law_role_columns T F__law_role_columns, g__law_role_columns, F__law_role_columns.kp, F__law_role_columns.binds (ps := ["scene", "role"]) (fun _ _ _ _ _ _ us hl => match us, hl with | [_, _], _ => rfl), .nil, fun _ => .nil⟩
  have D__law_groups : DefOk P w K mg base (Gx K cls atm) "_law_groups" 2 [false, false, false] fn__law_groups [] := ⟨f__law_groups, fd__law_groups, ["scene", "role", "given"], [], [], ok__law_groups T D__law_closure D__law_role_columns F__law_groups, g__law_groups, F__law_groups.kp, F__law_groups.binds (ps := ["scene", "role", "given"]) (fun _ _ _ _ _ _ us hl => match us, hl with | [_, _, _], _ => rfl), .nil, fun _ => .nil⟩
  have D__law_scene_made : DefOk P w K mg base (Gx K cls atm) "_law_scene_made" 9 [false] fn__law_scene_made [] := ⟨f__law_scene_made, fd__law_scene_made, ["scene"], [], [], ok__law_scene_made T M_Scene_of F__law_scene_made, g__law_scene_made, F__law_scene_made.kp, F__law_scene_made.binds (ps := ["scene"]) (fun _ _ _ _ _ _ us hl => match us, hl with | [_], _ => rfl), .nil, fun _ => .nil⟩
  have D__law_changing : DefOk P w K mg base (Gx K cls atm) "_law_changing" 1 [false] fn__law_changing [] := ⟨f__law_changing, fd__law_changing, ["scene"], [], [], ok__law_changing T F__law_changing, g__law_changing, F__law_changing.kp, F__law_changing.binds (ps := ["scene"]) (fun _ _ _ _ _ _ us hl => match us, hl with | [_], _ => rfl), .nil, fun _ => .nil⟩
  have D__law_pick : DefOk P w K mg base (Gx K cls atm) "_law_pick" 2 [true, false] fn__law_pick [] := ⟨f__law_pick, fd__law_pick, ["dice", "items"], [], [], ok__law_pick T D__law_roll F__law_pick, g__law_pick, F__law_pick.kp, F__law_pick.binds (ps := ["dice", "items"]) (fun _ _ _ _ _ _ us hl => match us, hl with | [_, _], _ => rfl), .nil, fun _ => .nil⟩
  have D__law_columns : DefOk P w K mg base (Gx K cls atm) "_law_columns" 1 [false] fn__law_columns [] := ⟨f__law_columns, fd__law_columns, ["scene"], [], [], ok__law_columns T F__law_columns, g__law_columns, F__law_columns.kp, F__law_columns.binds (ps := ["scene"]) (fun _ _ _ _ _ _ us hl => match us, hl with | [_], _ => rfl), .nil, fun _ => .nil⟩
  have D__law_door : DefOk P w K mg base (Gx K cls atm) "_law_door" 4 [true, false] fn__law_door [] := ⟨f__law_door, fd__law_door, ["dice", "scene"], [], [], ok__law_door T D__law_columns D__law_some F__law_door, g__law_door, F__law_door.kp, F__law_door.binds (ps := ["dice", "scene"]) (fun _ _ _ _ _ _ us hl => match us, hl with | [_, _], _ => rfl), .nil, fun _ => .nil⟩
  have D__law_role : DefOk P w K mg base (Gx K cls atm) "_law_role" 5 [true, false] fn__law_role [] := ⟨f__law_role, fd__law_role, ["dice", "scene"], [], [], ok__law_role T D__law_changing D__law_door D__law_pick D__law_roll F__law_role, g__law_role, F__law_role.kp, F__law_role.binds (ps := ["dice", "scene"]) (fun _ _ _ _ _ _ us hl => match us, hl with | [_, _], _ => rfl), .nil, fun _ => .nil⟩
  have D__law_given : DefOk P w K mg base (Gx K cls atm) "_law_given" 4 [true, false, false] fn__law_given [] := ⟨f__law_given, fd__law_given, ["dice", "scene", "role"], [], [], ok__law_given T D__law_some F__law_given, g__law_given, F__law_given.kp, F__law_given.binds (ps := ["dice", "scene", "role"]) (fun _ _ _ _ _ _ us hl => match us, hl with | [_, _, _], _ => rfl), .nil, fun _ => .nil⟩
  have D__law_lacking : DefOk P w K mg base (Gx K cls atm) "_law_lacking" 1 [false, true] fn__law_lacking [] := ⟨f__law_lacking, fd__law_lacking, ["some", "have"], [], [], ok__law_lacking T F__law_lacking, g__law_lacking, F__law_lacking.kp, F__law_lacking.binds (ps := ["some", "have"]) (fun _ _ _ _ _ _ us hl => match us, hl with | [_, _], _ => rfl), .nil, fun _ => .nil⟩
  have D__law_piece_view : DefOk P w K mg base (Gx K cls atm) "_law_piece_view" 2 [false, false, false, false] fn__law_piece_view [] := ⟨f__law_piece_view, fd__law_piece_view, ["scene", "role", "given", "piece"], [], [], ok__law_piece_view T D__law_closure D__law_lacking D__law_role_columns F__law_piece_view, g__law_piece_view, F__law_piece_view.kp, F__law_piece_view.binds (ps := ["scene", "role", "given", "piece"]) (fun _ _ _ _ _ _ us hl => match us, hl with | [_, _, _, _], _ => rfl), .nil, fun _ => .nil⟩
  have N_pieces : DkwOk P w K mg base (Gx K cls atm) "pieces" 6 2 [false, false, false] fn_pieces ["tables"] := ⟨f_pieces, fd_pieces, ["scene", "role", "tables"], _, ok_pieces T D_given_tables D_pieces_in D_require_role D_require_scene F_pieces, g_pieces, F_pieces.kp, kbn_any F_pieces (fun kV doc pm an cdv ct us ws h1 h2 => match us, ws, h1, h2 with | [_, _], [_], _, _ => rfl), rfl⟩
  have D__law_case_right : DefOk P w K mg base (Gx K cls atm) "_law_case_right" 10 [true] fn__law_case_right [] := ⟨f__law_case_right, fd__law_case_right, ["dice"], [], [], ok__law_case_right T D__law_given D__law_groups D__law_piece_view D__law_role D__law_scene D__law_scene_made N_closed_piece D_piece_views N_piece_views N_pieces F__law_case_right, g__law_case_right, F__law_case_right.kp, F__law_case_right.binds (ps := ["dice"]) (fun _ _ _ _ _ _ us hl => match us, hl with | [_], _ => rfl), .nil, fun _ => .nil⟩
  exact ok_law T M_Scene_of D__law_case_right D__law_dice D_closed_piece D_piece_views N_piece_views F_law
end Lw
open PySem PySem.W PyProof.Rows L2 Ft
set_option maxRecDepth 100000 in
set_option maxHeartbeats 0 in
theorem PySem.Challenge.cw_fewtouched_k31_views_of_pieces_holds : PySem.Challenge.rw_fewtouched_k31_views_of_pieces.Holds := by
  w_on; o_law; k_head; (case hw => w_witness2)
  k_fill
  refine Ft.walk_pure (l := PySem.Challenge.rw_fewtouched_k31_views_of_pieces) (k := 11) (nm := nmOf Lw.tab) (fn := Lw.fn_law) rfl rfl rfl ⟨rfl, by decide, by decide⟩ Lw.law_true (fun w h Y => PySem.W.kIn_of Y) ?F
  case F =>
    intro w mg h KX G
    obtain ⟨C0, aC0, i_Scene, n_Scene_own_changing, n_Scene_own_columns, n_Scene_own_every, n_Scene_own_keys, n_Scene_own_tables, m_Scenedd_containsdd, m_Scenedd_initdd, m_Scene_of, m_Scene_columns, m_Scene_tables⟩ : ∃ C0, PySem.W.nsIn (L2.KOf KX) mainGlobals "Scene" = some (some (.ref C0)) ∧ ClsI (L2.KOf KX) C0 ∧ NoAttr (L2.KOf KX) C0 "own_changing" ∧ NoAttr (L2.KOf KX) C0 "own_columns" ∧ NoAttr (L2.KOf KX) C0 "own_every" ∧ NoAttr (L2.KOf KX) C0 "own_keys" ∧ NoAttr (L2.KOf KX) C0 "own_tables" ∧ MFn (L2.KOf KX) C0 "__contains__" "Scene.__contains__" Lw.s_Scenedd_containsdd ∧ KFn (L2.KOf KX) C0 "Scene.__init__" Lw.s_Scenedd_initdd ∧ CFn (L2.KOf KX) C0 "of" "Scene.of" Lw.s_Scene_of ∧ PFn (L2.KOf KX) C0 "columns" "Scene.columns" Lw.s_Scene_columns ∧ PFn (L2.KOf KX) C0 "tables" "Scene.tables" Lw.s_Scene_tables := by
      delta L2.KOf; refine' ⟨?C0, ?q0, ⟨⟨?q1_pg, ?q1_hd, ?q1_po, ?q1_sa⟩, ?q1_ha, ?q1_hn, ?q1_ht, ?q1_hm⟩, ?q2, ?q3, ?q4, ?q5, ?q6, mfn ?q7_a ?q7_i ?q7_l ?q7_c ?q7_k, kfn ?q8_m ?q8_a ?q8_i ?q8_l ?q8_c ?q8_k ?q8_kc, cfn (mc := .type "type") ?q9_rd ?q9_ga ?q9_a ?q9_r ?q9_i ?q9_l ?q9_c ?q9_k, pfn ?q10_a ?q10_g ?q10_t ?q10_r ?q10_l ?q10_c ?q10_k, pfn ?q11_a ?q11_g ?q11_t ?q11_r ?q11_l ?q11_c ?q11_k⟩
      (case q0 => k_is)
      (case q1_pg => k_is); (case q1_hd => k_is); (case q1_po => k_is); (case q1_sa => k_is); (case q1_ha => k_is); (case q1_hn => k_is); (case q1_ht => k_is); (case q1_hm => k_is)
      (case q2 => delta L2.NoAttr; k_is)
      (case q3 => delta L2.NoAttr; k_is)
      (case q4 => delta L2.NoAttr; k_is)
      (case q5 => delta L2.NoAttr; k_is)
      (case q6 => delta L2.NoAttr; k_is)
      (case q7_a => k_is); (case q7_i => k_is); (case q7_l => k_is); (case q7_c => k_is); (case q7_k => k_is)
      (case q8_m => k_is); (case q8_a => k_is); (case q8_i => k_is); (case q8_l => k_is); (case q8_c => k_is); (case q8_k => k_is); (case q8_kc => k_is)
      (case q9_rd => k_is); (case q9_ga => k_is); (case q9_a => k_is); (case q9_r => k_is); (case q9_i => k_is); (case q9_l => k_is); (case q9_c => k_is); (case q9_k => k_is)
      (case q10_a => k_is); (case q10_g => k_is); (case q10_t => k_is); (case q10_r => k_is); (case q10_l => k_is); (case q10_c => k_is); (case q10_k => k_is)
      (case q11_a => k_is); (case q11_g => k_is); (case q11_t => k_is); (case q11_r => k_is); (case q11_l => k_is); (case q11_c => k_is); (case q11_k => k_is)
    have b_abs : mg "abs" = none := by refine' PySem.W.mg_none_of KX G ?a; (case a => k_is)
    have b_all : mg "all" = none := by refine' PySem.W.mg_none_of KX G ?a; (case a => k_is)
    have b_any : mg "any" = none := by refine' PySem.W.mg_none_of KX G ?a; (case a => k_is)
    have b_dict : mg "dict" = none := by refine' PySem.W.mg_none_of KX G ?a; (case a => k_is)
    have b_enumerate : mg "enumerate" = none := by refine' PySem.W.mg_none_of KX G ?a; (case a => k_is)
    have b_int : mg "int" = none := by refine' PySem.W.mg_none_of KX G ?a; (case a => k_is)
    have b_isinstance : mg "isinstance" = none := by refine' PySem.W.mg_none_of KX G ?a; (case a => k_is)
    have b_len : mg "len" = none := by refine' PySem.W.mg_none_of KX G ?a; (case a => k_is)
    have b_list : mg "list" = none := by refine' PySem.W.mg_none_of KX G ?a; (case a => k_is)
    have b_max : mg "max" = none := by refine' PySem.W.mg_none_of KX G ?a; (case a => k_is)
    have b_min : mg "min" = none := by refine' PySem.W.mg_none_of KX G ?a; (case a => k_is)
    have b_range : mg "range" = none := by refine' PySem.W.mg_none_of KX G ?a; (case a => k_is)
    have b_set : mg "set" = none := by refine' PySem.W.mg_none_of KX G ?a; (case a => k_is)
    have b_sorted : mg "sorted" = none := by refine' PySem.W.mg_none_of KX G ?a; (case a => k_is)
    have b_str : mg "str" = none := by refine' PySem.W.mg_none_of KX G ?a; (case a => k_is)
    have b_tuple : mg "tuple" = none := by refine' PySem.W.mg_none_of KX G ?a; (case a => k_is)
    have b_zip : mg "zip" = none := by refine' PySem.W.mg_none_of KX G ?a; (case a => k_is)
    have g_CHANGING : GStr mg "CHANGING" "changing" := by refine' gstr KX G ?a; (case a => k_is)
    have g_LETTERS : GStr mg "LETTERS" "abcdefghijklmnopqrstuvwxyz" := by refine' gstr KX G ?a; (case a => k_is)
    have g_MAX_COLUMNS : GInt mg "MAX_COLUMNS" 6 := by refine' gint KX G ?a; (case a => k_is)
    have g_MAX_LETTERS : GInt mg "MAX_LETTERS" 8 := by refine' gint KX G ?a; (case a => k_is)
    have g_MAX_TABLES : GInt mg "MAX_TABLES" 6 := by refine' gint KX G ?a; (case a => k_is)
    have g_MOST_COLUMNS : GInt mg "MOST_COLUMNS" 4 := by refine' gint KX G ?a; (case a => k_is)
    have d_is_name : DFn (L2.KOf KX) mg "is_name" Lw.s_is_name := by delta L2.KOf; refine' dfn KX G ?a ?l ?c ?k; (case a => k_is); (case l => k_is); (case c => k_is); (case k => k_is)
    have d_told_dict : DFn (L2.KOf KX) mg "told_dict" Lw.s_told_dict := by delta L2.KOf; refine' dfn KX G ?a ?l ?c ?k; (case a => k_is); (case l => k_is); (case c => k_is); (case k => k_is)
    have d_ascending_names : DFn (L2.KOf KX) mg "ascending_names" Lw.s_ascending_names := by delta L2.KOf; refine' dfn KX G ?a ?l ?c ?k; (case a => k_is); (case l => k_is); (case c => k_is); (case k => k_is)
    have d_columns_told : DFn (L2.KOf KX) mg "columns_told" Lw.s_columns_told := by delta L2.KOf; refine' dfn KX G ?a ?l ?c ?k; (case a => k_is); (case l => k_is); (case c => k_is); (case k => k_is)
    have d_key_told : DFn (L2.KOf KX) mg "key_told" Lw.s_key_told := by delta L2.KOf; refine' dfn KX G ?a ?l ?c ?k; (case a => k_is); (case l => k_is); (case c => k_is); (case k => k_is)
    have d_is_line : DFn (L2.KOf KX) mg "is_line" Lw.s_is_line := by delta L2.KOf; refine' dfn KX G ?a ?l ?c ?k; (case a => k_is); (case l => k_is); (case c => k_is); (case k => k_is)
    have d_scene_in : DFn (L2.KOf KX) mg "scene_in" Lw.s_scene_in := by delta L2.KOf; refine' dfn KX G ?a ?l ?c ?k; (case a => k_is); (case l => k_is); (case c => k_is); (case k => k_is)
    have d__law_dice : DFn (L2.KOf KX) mg "_law_dice" Lw.s__law_dice := by delta L2.KOf; refine' dfn KX G ?a ?l ?c ?k; (case a => k_is); (case l => k_is); (case c => k_is); (case k => k_is)
    have d_require_scene : DFn (L2.KOf KX) mg "require_scene" Lw.s_require_scene := by delta L2.KOf; refine' dfn KX G ?a ?l ?c ?k; (case a => k_is); (case l => k_is); (case c => k_is); (case k => k_is)
    have d_is_columns : DFn (L2.KOf KX) mg "is_columns" Lw.s_is_columns := by delta L2.KOf; refine' dfn KX G ?a ?l ?c ?k; (case a => k_is); (case l => k_is); (case c => k_is); (case k => k_is)
    have d_are_columns : DFn (L2.KOf KX) mg "are_columns" Lw.s_are_columns := by delta L2.KOf; refine' dfn KX G ?a ?l ?c ?k; (case a => k_is); (case l => k_is); (case c => k_is); (case k => k_is)
    have d_is_role_in : DFn (L2.KOf KX) mg "is_role_in" Lw.s_is_role_in := by delta L2.KOf; refine' dfn KX G ?a ?l ?c ?k; (case a => k_is); (case l => k_is); (case c => k_is); (case k => k_is)
    have d_require_role : DFn (L2.KOf KX) mg "require_role" Lw.s_require_role := by delta L2.KOf; refine' dfn KX G ?a ?l ?c ?k; (case a => k_is); (case l => k_is); (case c => k_is); (case k => k_is)
    have d_are_tables : DFn (L2.KOf KX) mg "are_tables" Lw.s_are_tables := by delta L2.KOf; refine' dfn KX G ?a ?l ?c ?k; (case a => k_is); (case l => k_is); (case c => k_is); (case k => k_is)
    have d_require_tables : DFn (L2.KOf KX) mg "require_tables" Lw.s_require_tables := by delta L2.KOf; refine' dfn KX G ?a ?l ?c ?k; (case a => k_is); (case l => k_is); (case c => k_is); (case k => k_is)
    have d_given_tables : DFn (L2.KOf KX) mg "given_tables" Lw.s_given_tables := by delta L2.KOf; refine' dfn KX G ?a ?l ?c ?k; (case a => k_is); (case l => k_is); (case c => k_is); (case k => k_is)
    have d_closing_steps : DFn (L2.KOf KX) mg "closing_steps" Lw.s_closing_steps := by delta L2.KOf; refine' dfn KX G ?a ?l ?c ?k; (case a => k_is); (case l => k_is); (case c => k_is); (case k => k_is)
    have d_closure_in : DFn (L2.KOf KX) mg "closure_in" Lw.s_closure_in := by delta L2.KOf; refine' dfn KX G ?a ?l ?c ?k; (case a => k_is); (case l => k_is); (case c => k_is); (case k => k_is)
    have d_role_columns : DFn (L2.KOf KX) mg "role_columns" Lw.s_role_columns := by delta L2.KOf; refine' dfn KX G ?a ?l ?c ?k; (case a => k_is); (case l => k_is); (case c => k_is); (case k => k_is)
    have d_joined_to : DFn (L2.KOf KX) mg "joined_to" Lw.s_joined_to := by delta L2.KOf; refine' dfn KX G ?a ?l ?c ?k; (case a => k_is); (case l => k_is); (case c => k_is); (case k => k_is)
    have d_pieces_in : DFn (L2.KOf KX) mg "pieces_in" Lw.s_pieces_in := by delta L2.KOf; refine' dfn KX G ?a ?l ?c ?k; (case a => k_is); (case l => k_is); (case c => k_is); (case k => k_is)
    have d_columns_inside : DFn (L2.KOf KX) mg "columns_inside" Lw.s_columns_inside := by delta L2.KOf; refine' dfn KX G ?a ?l ?c ?k; (case a => k_is); (case l => k_is); (case c => k_is); (case k => k_is)
    have d_reached_in : DFn (L2.KOf KX) mg "reached_in" Lw.s_reached_in := by delta L2.KOf; refine' dfn KX G ?a ?l ?c ?k; (case a => k_is); (case l => k_is); (case c => k_is); (case k => k_is)
    have d_view_of_piece : DFn (L2.KOf KX) mg "view_of_piece" Lw.s_view_of_piece := by delta L2.KOf; refine' dfn KX G ?a ?l ?c ?k; (case a => k_is); (case l => k_is); (case c => k_is); (case k => k_is)
    have d_closed_piece : DFnK1 (L2.KOf KX) mg "closed_piece" Lw.s_closed_piece "tables" := by delta L2.KOf; refine' dfnK1 KX G ?a ?l ?c ?k ?n; (case a => k_is); (case l => k_is); (case c => k_is); (case k => k_is); (case n => k_is)
    have d_piece_views_in : DFn (L2.KOf KX) mg "piece_views_in" Lw.s_piece_views_in := by delta L2.KOf; refine' dfn KX G ?a ?l ?c ?k; (case a => k_is); (case l => k_is); (case c => k_is); (case k => k_is)
    have d_piece_views : DFnK1 (L2.KOf KX) mg "piece_views" Lw.s_piece_views "tables" := by delta L2.KOf; refine' dfnK1 KX G ?a ?l ?c ?k ?n; (case a => k_is); (case l => k_is); (case c => k_is); (case k => k_is); (case n => k_is)
    have d__law_roll : DFn (L2.KOf KX) mg "_law_roll" Lw.s__law_roll := by delta L2.KOf; refine' dfn KX G ?a ?l ?c ?k; (case a => k_is); (case l => k_is); (case c => k_is); (case k => k_is)
    have d__law_mixed : DFn (L2.KOf KX) mg "_law_mixed" Lw.s__law_mixed := by delta L2.KOf; refine' dfn KX G ?a ?l ?c ?k; (case a => k_is); (case l => k_is); (case c => k_is); (case k => k_is)
    have d__law_words : DFn (L2.KOf KX) mg "_law_words" Lw.s__law_words := by delta L2.KOf; refine' dfn KX G ?a ?l ?c ?k; (case a => k_is); (case l => k_is); (case c => k_is); (case k => k_is)
    have d__law_some : DFn (L2.KOf KX) mg "_law_some" Lw.s__law_some := by delta L2.KOf; refine' dfn KX G ?a ?l ?c ?k; (case a => k_is); (case l => k_is); (case c => k_is); (case k => k_is)
    have d__law_kind : DFn (L2.KOf KX) mg "_law_kind" Lw.s__law_kind := by delta L2.KOf; refine' dfn KX G ?a ?l ?c ?k; (case a => k_is); (case l => k_is); (case c => k_is); (case k => k_is)
    have d__law_scene : DFn (L2.KOf KX) mg "_law_scene" Lw.s__law_scene := by delta L2.KOf; refine' dfn KX G ?a ?l ?c ?k; (case a => k_is); (case l => k_is); (case c => k_is); (case k => k_is)
    have d__law_closure : DFn (L2.KOf KX) mg "_law_closure" Lw.s__law_closure := by delta L2.KOf; refine' dfn KX G ?a ?l ?c ?k; (case a => k_is); (case l => k_is); (case c => k_is); (case k => k_is)
    have d__law_role_columns : DFn (L2.KOf KX) mg "_law_role_columns" Lw.s__law_role_columns := by delta L2.KOf; refine' dfn KX G ?a ?l ?c ?k; (case a => k_is); (case l => k_is); (case c => k_is); (case k => k_is)
    have d__law_groups : DFn (L2.KOf KX) mg "_law_groups" Lw.s__law_groups := by delta L2.KOf; refine' dfn KX G ?a ?l ?c ?k; (case a => k_is); (case l => k_is); (case c => k_is); (case k => k_is)
    have d__law_scene_made : DFn (L2.KOf KX) mg "_law_scene_made" Lw.s__law_scene_made := by delta L2.KOf; refine' dfn KX G ?a ?l ?c ?k; (case a => k_is); (case l => k_is); (case c => k_is); (case k => k_is)
    have d__law_changing : DFn (L2.KOf KX) mg "_law_changing" Lw.s__law_changing := by delta L2.KOf; refine' dfn KX G ?a ?l ?c ?k; (case a => k_is); (case l => k_is); (case c => k_is); (case k => k_is)
    have d__law_pick : DFn (L2.KOf KX) mg "_law_pick" Lw.s__law_pick := by delta L2.KOf; refine' dfn KX G ?a ?l ?c ?k; (case a => k_is); (case l => k_is); (case c => k_is); (case k => k_is)
    have d__law_columns : DFn (L2.KOf KX) mg "_law_columns" Lw.s__law_columns := by delta L2.KOf; refine' dfn KX G ?a ?l ?c ?k; (case a => k_is); (case l => k_is); (case c => k_is); (case k => k_is)
    have d__law_door : DFn (L2.KOf KX) mg "_law_door" Lw.s__law_door := by delta L2.KOf; refine' dfn KX G ?a ?l ?c ?k; (case a => k_is); (case l => k_is); (case c => k_is); (case k => k_is)
    have d__law_role : DFn (L2.KOf KX) mg "_law_role" Lw.s__law_role := by delta L2.KOf; refine' dfn KX G ?a ?l ?c ?k; (case a => k_is); (case l => k_is); (case c => k_is); (case k => k_is)
    have d__law_given : DFn (L2.KOf KX) mg "_law_given" Lw.s__law_given := by delta L2.KOf; refine' dfn KX G ?a ?l ?c ?k; (case a => k_is); (case l => k_is); (case c => k_is); (case k => k_is)
    have d__law_lacking : DFn (L2.KOf KX) mg "_law_lacking" Lw.s__law_lacking := by delta L2.KOf; refine' dfn KX G ?a ?l ?c ?k; (case a => k_is); (case l => k_is); (case c => k_is); (case k => k_is)
    have d__law_piece_view : DFn (L2.KOf KX) mg "_law_piece_view" Lw.s__law_piece_view := by delta L2.KOf; refine' dfn KX G ?a ?l ?c ?k; (case a => k_is); (case l => k_is); (case c => k_is); (case k => k_is)
    have d_pieces : DFnK1 (L2.KOf KX) mg "pieces" Lw.s_pieces "tables" := by delta L2.KOf; refine' dfnK1 KX G ?a ?l ?c ?k ?n; (case a => k_is); (case l => k_is); (case c => k_is); (case k => k_is); (case n => k_is)
    have d__law_case_right : DFn (L2.KOf KX) mg "_law_case_right" Lw.s__law_case_right := by delta L2.KOf; refine' dfn KX G ?a ?l ?c ?k; (case a => k_is); (case l => k_is); (case c => k_is); (case k => k_is)
    have d_law : DFn (L2.KOf KX) mg "law" Lw.s_law := by delta L2.KOf; refine' dfn KX G ?a ?l ?c ?k; (case a => k_is); (case l => k_is); (case c => k_is); (case k => k_is)
    obtain ⟨f, fd, e1, e2, e3⟩ := Lw.chain (P := PySem.Challenge.rw_fewtouched_k31_views_of_pieces.prog) (w := w) (K := (L2.KOf KX)) (mg := mg) (cls := fun _ => C0) (atm := fun _ => C0) ⟨⟨nmOf_apart (by decide +kernel) (by decide +kernel), b_abs, b_all, b_any, b_dict, b_enumerate, b_int, b_isinstance, b_len, b_list, b_max, b_min, b_range, b_set, b_sorted, b_str, b_tuple, b_zip, g_CHANGING, g_LETTERS, g_MAX_COLUMNS, g_MAX_LETTERS, g_MAX_TABLES, g_MOST_COLUMNS, i_Scene, (PySem.W.mg_of KX G aC0), n_Scene_own_changing, n_Scene_own_columns, n_Scene_own_every, n_Scene_own_keys, n_Scene_own_tables⟩, m_Scenedd_containsdd, d_is_name, d_told_dict, d_ascending_names, d_columns_told, d_key_told, m_Scenedd_initdd, d_is_line, d_scene_in, m_Scene_of, d__law_dice, d_require_scene, d_is_columns, m_Scene_columns, d_are_columns, d_is_role_in, d_require_role, m_Scene_tables, d_are_tables, d_require_tables, d_given_tables, d_closing_steps, d_closure_in, d_role_columns, d_joined_to, d_pieces_in, d_columns_inside, d_reached_in, d_view_of_piece, d_closed_piece, d_piece_views_in, d_piece_views, d__law_roll, d__law_mixed, d__law_words, d__law_some, d__law_kind, d__law_scene, d__law_closure, d__law_role_columns, d__law_groups, d__law_scene_made, d__law_changing, d__law_pick, d__law_columns, d__law_door, d__law_role, d__law_given, d__law_lacking, d__law_piece_view, d_pieces, d__law_case_right, d_law, rfl⟩
    exact ⟨fun _ => C0, fun _ => C0, f, fd, e1, e2, e3⟩
